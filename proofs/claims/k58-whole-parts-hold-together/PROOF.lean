import PyProof.Rows.All
import Wide.All
import OpenK.AllK
import Wide.FinOn
import HandS.ForMost
import HandS.Steps
import HandS.IsInst
import HandS.Defaults
import HandS.Star
import HandS.Flow
import HandS.Wide
import HandS.Conv
import HandS.HeadHook4
import KE.KUnpackStar
import KE.GoesEnum
import KE.GoesMore
import HandS.Codes
import HandS.TupAny
import HandS.TupMul
import HandS.TupLe
import HandS.HeadEnd
import HandS.ForExc
import HandS.FStr
import HandS.Style
import PyProof.ListStr
import KE.KExcInit
import HandS.TryOnly
import HandS.TryMany
import HandS.ExcOwn
import HandS.MakeKwOnly
import HandS.Property
import HandS.OwnEq
import HandS.RaiseMore
import HandS.Replace
import HandS.GenList
import HandS.Sort
import HandS.Zip
import HandS.ExcIs
import KE.KExcIs
import OpenK.KMeth
import KE.KOpsOwn
import HandS.SlotsOwn
import HandS.HeadNt
import HandS.ClsMeth
import HandS.WideBits
import HandS.StrMore
import PyProof.StrLawsFrom
import PyProof.Rows.StrCountLaw
import HandS.Head0
import HandS.Head1
import HandS.Head2
import KE.KStateDown
import Lean
import PySem.Challenge.RW_ownbranch_k58_whole_parts_hold_together
set_option Elab.async false
set_option linter.all false
set_option maxRecDepth 100000
set_option maxHeartbeats 4000000
/-! Ob: own layer over HandS: the context of a law's text, steps through readings, data -/
namespace Ob
open PySem PySem.Spec PyProof.Rows L2 StX

/-! ### the context -/
structure Tp (fa : List He.Fa) (fn : List He.DefD) (ts : List He.Tab) (ex : PySem.W.Frag → Bool) (w : World) (K : PySem.W.Frag) (mg : Str → Option Value) : Prop where
  s : ∃ h : Heap, K.In h ∧ h.Ns mainGlobals mg ∧ He.SaysX fa fn ts [] ex w h K
section
variable {fa : List He.Fa} {fn : List He.DefD} {ts : List He.Tab} {ex : PySem.W.Frag → Bool} {w : World} {K : PySem.W.Frag} {mg : Str → Option Value}
theorem Tp.g (T : Tp fa fn ts ex w K mg) : ∃ h : Heap, K.In h ∧ h.Ns mainGlobals mg := let ⟨h, a, b, _⟩ := T.s; ⟨h, a, b⟩
theorem Tp.c (T : Tp fa fn ts ex w K mg) : He.SaysD fa fn K := let ⟨_, _, _, c⟩ := T.s; c.t.d
theorem Tp.tab (T : Tp fa fn ts ex w K mg) (i : Nat) {t : He.Tab} (h : ts[i]? = some t := by rfl) : ∃ es n, KDict K w (t.1 K) es n := let ⟨_, _, _, c⟩ := T.s; c.t.tab i h
theorem Tp.more (T : Tp fa fn ts ex w K mg) : ex K = true := let ⟨_, _, _, c⟩ := T.s; c.more
theorem Tp.glo (T : Tp fa fn ts ex w K mg) (i : Nat) {x : Str} (h : fa[i]? = some (.glo x) := by rfl) : mg x = some (.ref (He.ga K x)) := by
  obtain ⟨_, X, G⟩ := T.g
  exact He.glo_ok X G (T.c.fact i h)
theorem Tp.free (T : Tp fa fn ts ex w K mg) (i : Nat) {x : Str} (h : fa[i]? = some (.free x) := by rfl) : mg x = none := by
  obtain ⟨_, X, G⟩ := T.g
  exact He.free_ok X G (T.c.fact i h)
theorem Tp.int (T : Tp fa fn ts ex w K mg) (i : Nat) {x : Str} {n : Int} (h : fa[i]? = some (.int x n) := by rfl) : ∃ t, mg x = some (.int n t) := by
  obtain ⟨_, X, G⟩ := T.g
  exact He.int_ok X G (T.c.fact i h)
theorem Tp.str (T : Tp fa fn ts ex w K mg) (i : Nat) {x z : Str} (h : fa[i]? = some (.str x z) := by rfl) : ∃ t, mg x = some (.str z t) := by
  obtain ⟨_, X, G⟩ := T.g
  exact He.str_ok X G (T.c.fact i h)
theorem Tp.kp (T : Tp fa fn ts ex w K mg) (i : Nat) {d : He.DefD} (h : fn[i]? = some d := by rfl) : PySem.W.keepIn K (.ref (He.fAd K d.at_)) = true := by
  obtain ⟨_, F⟩ := T.c.def_ i h
  exact F.kp
/-- a def of the text, without defaults, keeps its promise -/
theorem Tp.ok {P : Program} {base : Heap} {CX : CXT} {k : Nat} {sp : Sp} (T : Tp fa fn ts ex w K mg) (i : Nat) {d : He.DefD} (h : fn[i]? = some d) (hd : d.dfl = []) (hk : d.kwd = []) {N ps : List Str} (S : FnScope N ps d.scope)
    (hb : ∀ (kV doc pm : Value) (an : Option Addr) (cdv ct : Value) (us : List Value), us.length = ps.length → bindArgs (PySem.W.fnOf d.name d.qual d.params d.body d.scope .none kV doc pm an cdv ct) ⟨us, []⟩ = pure (ps.zip us))
    (len : ∀ vs H Q E, sp vs H Q E → vs.length = ps.length)
    (hbody : ∀ (cdv : Value) (A : Around) (outer : List Env) (s : Shared) (H : Hp) (vs : List V) (Q : VK) (E : XK), Room k (A.deeper (envOfC d.qual d.scope s.heap.objs.size (He.fAd K d.at_) cdv)) → sp vs H Q E →
      ∃ t, PSs (cxOf CX P w K mg base N d.qual d.scope (He.fAd K d.at_) cdv A outer s H E) d.body t ∧ t { nx := fun _ H' => Q .non H', rt := Q } (start N vs) H) :
    FnR P w K mg base CX (k + 1) (He.fAd K d.at_) sp := by
  obtain ⟨fd, F⟩ := T.c.def_ i h
  have e1 : d.dvs K = [] := by unfold He.DefD.dvs; rw [hd]; rfl
  have e2 : d.kws K = [] := by unfold He.DefD.kws; rw [hk]; rfl
  rw [e1, e2] at F
  have G := (F.ok (CX := CX) (P := P) (w := w) (mg := mg) (base := base) S len hbody).raw (F.bindsN hb) .nil
  exact G.imp fun vs H Q E z => by rw [List.append_nil]; exact z
/-- .. that lets no error out -/
theorem Tp.ok0 {P : Program} {base : Heap} {k : Nat} {sp : Sp} (T : Tp fa fn ts ex w K mg) (i : Nat) {d : He.DefD} (h : fn[i]? = some d) (hd : d.dfl = []) (hk : d.kwd = []) {N ps : List Str} (S : FnScope N ps d.scope)
    (hb : ∀ (kV doc pm : Value) (an : Option Addr) (cdv ct : Value) (us : List Value), us.length = ps.length → bindArgs (PySem.W.fnOf d.name d.qual d.params d.body d.scope .none kV doc pm an cdv ct) ⟨us, []⟩ = pure (ps.zip us))
    (len : ∀ vs H Q E, sp vs H Q E → vs.length = ps.length)
    (hbody : ∀ (cdv : Value) (A : Around) (outer : List Env) (s : Shared) (H : Hp) (vs : List V) (Q : VK) (E : XK), Room k (A.deeper (envOfC d.qual d.scope s.heap.objs.size (He.fAd K d.at_) cdv)) → sp vs H Q E →
      ∃ t, PSs (cxOf CX0 P w K mg base N d.qual d.scope (He.fAd K d.at_) cdv A outer s H E).nox d.body t ∧ t { nx := fun _ H' => Q .non H', rt := Q } (start N vs) H) :
    FnR P w K mg base CX0 (k + 1) (He.fAd K d.at_) sp :=
  T.ok i h hd hk S hb len fun cdv A outer s H vs Q E hr hsp => let ⟨t, a, b⟩ := hbody cdv A outer s H vs Q E hr hsp; ⟨t, a.nox, b⟩
end
/-- a call by the global's name -/
def tCl (sp : Sp) (E : XK) (t : TA) : TE := fun σ H Q => t σ H fun vs H1 => sp vs H1 Q E
theorem pc {X : Cx} {CX : CXT} {k : Nat} {x : Str} {sp : Sp} {E : XK} {e : Expr} {es : List Expr} {t : TA} {p pos : Pos} (F : FnR X.prog X.w X.K X.mg X.base CX k (He.ga X.K x) sp) (hr : Room k X.A) (hm : X.mg x = some (.ref (He.ga X.K x)))
    (hk : PySem.W.keepIn X.K (.ref (He.ga X.K x)) = true) (hx : Passes CX X E) (ha : PA X (e :: es) t) (hg : Gl X x := by rfl) (hd : (x == ("__debug__" : Str)) = false := by decide)
    (he : starEach (e :: es) X.env = (false, eval e X.env) :: starEach es X.env := by rfl) (hpl : (backTo pos (starEach es X.env)).any (·.1) = false := by rfl) :
    PE X (.Call (.Name x p) (e :: es) [] pos) (tCl sp E t) := by
  refine ⟨fun pins s σ H Q I h => ?_⟩
  refine wpAny_Call_Name_kw (ld_glob I hg hm ?_ hd)
  refine PySem.W.callWith_K (h₀ := X.base) I.ok.mod.kin hk (thn (ha.run pos pins s σ H _ I h) fun us s1 ⟨vs, H1, I1, r, q⟩ => ⟨I1.kIn, ?_⟩) he hpl
  exact wpAny_call (run_fnR F hr hx I1 r q)
/-- a constant of the module -/
theorem pgi {X : Cx} {x : Str} {n : Int} {pos : Pos} (hm : ∃ t, X.mg x = some (.int n t)) (hg : Gl X x := by rfl) (hd : (x == ("__debug__" : Str)) = false := by decide) : PE X (.Name x pos) (tC (.int n)) := by
  obtain ⟨t, e⟩ := hm
  exact pe_glob hg e ⟨t, rfl⟩ hd
theorem pgs {X : Cx} {x z : Str} {pos : Pos} (hm : ∃ t, X.mg x = some (.str z t)) (hg : Gl X x := by rfl) (hd : (x == ("__debug__" : Str)) = false := by decide) : PE X (.Name x pos) (tC (.str z)) := by
  obtain ⟨t, e⟩ := hm
  exact pe_glob hg e ⟨t, rfl⟩ hd
/-- a built-in type as a value -/
theorem pty {X : Cx} {x : Str} {n : String} {pos : Pos} (hm : X.mg x = none) (hv : bootBuiltins x = some (.type n)) (hg : Gl X x := by rfl) (hn : x ≠ "__name__" := by decide) (hd : (x == ("__debug__" : Str)) = false := by decide) : PE X (.Name x pos) (tC (.ty n)) :=
  pe_bltn (v := .ty n) hg hm hv rfl hn hd

/-! ### a dict of the top with text keys, whole -/
def dicL : List DictEntry → List (Str × V) → Bool
  | [], [] => true
  | e :: es, (k, v) :: kvs => (match e.key with
    | .str y _ => decide (y = k)
    | _ => false) && (!e.refKey && (He.relB v e.val && dicL es kvs))
  | _, _ => false
def dicB (K : PySem.W.Frag) (x : Str) (kvs : List (Str × V)) : Bool := match K.lookup (He.ga K x) with
  | some ⟨_, _, .dict es _, _⟩ => dicL es.toList kvs
  | _ => false
theorem dicL_find {z : Str} : ∀ {es : List DictEntry} {kvs : List (Str × V)}, dicL es kvs = true →
    (es.any (·.refKey) = false) ∧ ((kvs.lookup z = none ∧ es.find? (·.key.isStr z) = none) ∨ ∃ v e, kvs.lookup z = some v ∧ es.find? (·.key.isStr z) = some e ∧ RelV v e.val)
  | [], [], _ => ⟨rfl, .inl ⟨rfl, rfl⟩⟩
  | [], _ :: _, h => by cases h
  | _ :: _, [], h => by cases h
  | e :: es, (k, v) :: kvs, h => by
    obtain ⟨h1, h2⟩ := He.ba h
    obtain ⟨h3, h4⟩ := He.ba h2
    obtain ⟨h5, h6⟩ := He.ba h4
    obtain ⟨ih1, ih2⟩ := dicL_find (z := z) h6
    have hr : e.refKey = false := by
      cases q : e.refKey with
      | false => rfl
      | true => rw [q] at h3; cases h3
    refine ⟨by rw [List.any_cons, hr, ih1]; rfl, ?_⟩
    cases q : e.key with
    | str y t =>
      rw [q] at h1
      have ey : y = k := of_decide_eq_true h1
      subst ey
      have hs : e.key.isStr z = (z == y) := by
        rw [q, PySem.W.isStr_of]
        simp only [Value.isStrOf]
        first | rfl | (rw [Bool.beq_comm]) | (by_cases w : y = z <;> simp [w, eq_comm])
      by_cases hz : z = y
      · subst hz
        refine .inr ⟨v, e, by simp [List.lookup], ?_, He.relB_ok h5⟩
        rw [List.find?_cons, hs]
        simp
      · have hb : (z == y) = false := by simpa using hz
        rw [hb] at hs
        rw [List.find?_cons, hs]
        have hl : List.lookup z ((y, v) :: kvs) = kvs.lookup z := by simp [List.lookup, hb]
        rw [hl]
        exact ih2
    | _ => rw [q] at h1; cases h1
theorem dicB_ns {K : PySem.W.Frag} {x z : Str} {kvs : List (Str × V)} (h : dicB K x kvs = true) :
    (kvs.lookup z = none ∧ PySem.W.nsIn K (He.ga K x) z = some none) ∨ ∃ v u, kvs.lookup z = some v ∧ PySem.W.nsIn K (He.ga K x) z = some (some u) ∧ RelV v u := by
  unfold dicB at h
  unfold PySem.W.nsIn
  cases q : K.lookup (He.ga K x) with
  | none => rw [q] at h; cases h
  | some o =>
    obtain ⟨oc, od, dt, osl⟩ := o
    rw [q] at h
    cases dt with
    | dict es n =>
      have h2 : dicL es.toList kvs = true := h
      obtain ⟨h3, h4⟩ := dicL_find (z := z) h2
      rcases h4 with ⟨a, b⟩ | ⟨v, e, a, b, c⟩
      · refine .inl ⟨a, ?_⟩
        show (match es.toList.find? (·.key.isStr z) with | some e => some (some e.val) | none => if es.toList.any (·.refKey) then none else some none) = some none
        rw [b]
        show (if es.toList.any (·.refKey) then none else some none) = some none
        rw [h3]
        rfl
      · refine .inr ⟨v, e.val, a, ?_, c⟩
        show (match es.toList.find? (·.key.isStr z) with | some e => some (some e.val) | none => if es.toList.any (·.refKey) then none else some none) = some (some e.val)
        rw [b]
    | _ => cases h

/-! ### named readings of operations -/
def rLenN (K : PySem.W.Frag) : List V → Hp → VK → Prop := fun xs H Q => ∃ x n, xs = [x] ∧ LenV K x H n ∧ Q (.int n) H
theorem cr_len {X : Cx} : CallR X (.builtin "len") (rLenN X.K) := call_len

/-! ### steps -/
section
variable {X : Cx} {K : PySem.W.Frag} {D : Ends} {σ : L2.St} {H : Hp} {ta tb tc te : TE} {tt tu : TT} {t u : TS} {tA tB : TA} {Q : VK} {v x y : V} {i : Nat} {g : TG} {n x1 : L2.St → Hp → Prop} {r1 : VK}
theorem x_start {N : List Str} {vs : List V} {σ' : L2.St} (e : start N vs = σ') (h : t D σ' H) : t D (start N vs) H := by rw [e]; exact h
theorem x_seq {n : L2.St → Hp → Prop} {r : VK} {b c : L2.St → Hp → Prop} (h : t (Ends.mk (u (Ends.mk n r b c)) r b c) σ H) : tSeq t u (Ends.mk n r b c) σ H := h
theorem x_asg {n : L2.St → Hp → Prop} {r : VK} {b c : L2.St → Hp → Prop} (h : te σ H fun x H1 => g x σ H1 n) : tAsg te g (Ends.mk n r b c) σ H := h
theorem x_name {Q : L2.St → Hp → Prop} (h : Q (σ.set i (some v)) H) : gName i v σ H Q := h
theorem x_ret {n : L2.St → Hp → Prop} {r : VK} {b c : L2.St → Hp → Prop} (h : te σ H r) : tRet te (Ends.mk n r b c) σ H := h
theorem x_retN {n : L2.St → Hp → Prop} {r : VK} {b c : L2.St → Hp → Prop} (h : r .non H) : tRetN (Ends.mk n r b c) σ H := h
theorem x_ifS {n : L2.St → Hp → Prop} {r : VK} {b c : L2.St → Hp → Prop} (h : tt σ H fun z H1 => if z = true then t (Ends.mk n r b c) σ H1 else u (Ends.mk n r b c) σ H1) : tIfS tt t u (Ends.mk n r b c) σ H := h
theorem x_drop {n : L2.St → Hp → Prop} {r : VK} {b c : L2.St → Hp → Prop} (h : te σ H fun _ H1 => n σ H1) : tDrop te (Ends.mk n r b c) σ H := h
theorem x_next {n : L2.St → Hp → Prop} {r : VK} {b c : L2.St → Hp → Prop} (h : n σ H) : tNext (Ends.mk n r b c) σ H := h
theorem x_brk {n : L2.St → Hp → Prop} {r : VK} {b c : L2.St → Hp → Prop} (h : b σ H) : tBreak (Ends.mk n r b c) σ H := h
theorem x_cont {n : L2.St → Hp → Prop} {r : VK} {b c : L2.St → Hp → Prop} (h : c σ H) : tCont (Ends.mk n r b c) σ H := h
theorem x_var (e : σ[i]? = some (some v)) (h : Q v H) : tVar i σ H Q := ⟨v, e, h⟩
theorem x_c (h : Q v H) : tC v σ H Q := h
theorem x_op {r : R2} (h : ta σ H fun x H1 => tb σ H1 fun y H2 => r x y H2 Q) : tOp r ta tb σ H Q := h
theorem x_un {r : V → Hp → VK → Prop} (h : ta σ H fun x H1 => r x H1 Q) : tUn r ta σ H Q := h
theorem x_cb {r : List V → Hp → VK → Prop} (h : tA σ H fun vs H1 => r vs H1 Q) : tCB r tA σ H Q := h
theorem x_cl {sp : Sp} {E : XK} (h : tA σ H fun vs H1 => sp vs H1 Q E) : tCl sp E tA σ H Q := h
theorem x_nil {Q : List V → Hp → Prop} (h : Q [] H) : tNil σ H Q := h
theorem x_cons {Q : List V → Hp → Prop} (h : ta σ H fun x H1 => tA σ H1 fun xs H2 => Q (x :: xs) H2) : tCons ta tA σ H Q := h
theorem x_tup (h : tA σ H fun xs H1 => xs.length ≤ sizeLine ∧ ∀ p, H1 p = none → Q (.ref p) (upd H1 p (.tup xs))) : tTup tA σ H Q := h
theorem x_lst (h : tA σ H fun xs H1 => xs.length ≤ sizeLine ∧ ∀ p, H1 p = none → Q (.ref p) (upd H1 p (.lst xs))) : tLst tA σ H Q := h
theorem x_test {R : Bool → Hp → Prop} (h : te σ H fun x H' => ∃ k, x = .bl k ∧ R k H') : tTest te σ H R := h
theorem x_B {R : Bool → Hp → Prop} (h : te σ H fun x H' => ∃ k, x = .bl k ∧ R k H') : L2.tB te σ H R := h
theorem x_bl {b : Bool} {R : Bool → Prop} (h : R b) : ∃ k, V.bl b = .bl k ∧ R k := ⟨b, rfl, h⟩
theorem x_and {R : Bool → Hp → Prop} (h : tt σ H fun c H1 => if c = true then tu σ H1 R else R false H1) : tAnd tt tu σ H R := h
theorem x_or {R : Bool → Hp → Prop} (h : tt σ H fun c H1 => if c = true then R true H1 else tu σ H1 R) : tOr tt tu σ H R := h
theorem x_not {R : Bool → Hp → Prop} (h : tt σ H fun c H1 => R (!c) H1) : tNot tt σ H R := h
theorem x_andV (h : ta σ H fun x H1 => ∃ c, x = .bl c ∧ if c = true then tb σ H1 Q else Q (.bl false) H1) : tAndV ta tb σ H Q := h
theorem x_orV (h : ta σ H fun x H1 => ∃ c, x = .bl c ∧ if c = true then Q (.bl true) H1 else tb σ H1 Q) : tOrV ta tb σ H Q := h
theorem x_notV (h : ta σ H fun x H1 => ∃ c, x = .bl c ∧ Q (.bl (!c)) H1) : tNotV ta σ H Q := h
theorem x_if (h : tt σ H fun c H1 => if c = true then ta σ H1 Q else tb σ H1 Q) : tIf tt ta tb σ H Q := h
theorem x_chain {r r' : R2} (h : ta σ H fun x H1 => tb σ H1 fun y H2 => r x y H2 fun z H3 => ∃ k, z = .bl k ∧ (if k = true then tc σ H3 fun w' H4 => r' y w' H4 Q else Q (.bl false) H3)) : tChain r r' ta tb tc σ H Q := h
theorem x_I0 {f : Int → Int → V} {a b : Int} (h : Q (f a b) H) : rI0 f (.int a) (.int b) H Q := ⟨a, b, rfl, rfl, h⟩
theorem x_I {C : Int → Int → Prop} {f : Int → Int → V} {a b : Int} (c : C a b) (h : Q (f a b) H) : rI C f (.int a) (.int b) H Q := ⟨a, b, rfl, rfl, c, h⟩
theorem x_eq (e : scal x y = true) (h : Q (.bl (decide (x = y))) H) : rEq x y H Q := ⟨e, h⟩
theorem x_ne (e : scal x y = true) (h : Q (.bl (!decide (x = y))) H) : rNe x y H Q := ⟨e, h⟩
theorem x_isN (h : Q (.bl (decide (x = .non))) H) : rIsN x .non H Q := ⟨rfl, h⟩
theorem x_notN (h : Q (.bl (!decide (x = .non))) H) : rNotN x .non H Q := ⟨rfl, h⟩
theorem x_isi {m n : String} {b : Bool} (ty : TyX K H x (.type m)) (e : kitB m n = some b) (h : Q (.bl b) H) : rIsi K [x, .ty n] H Q := ⟨x, .ty n, _, _, b, rfl, .ty n, ty, kit_ty e, h⟩
theorem x_isiT {m n : String} (ty : TyX K H x (.type m)) (e : kitB m n = some true) (h : Q (.bl true) H) : rIsi K [x, .ty n] H Q := x_isi ty e h
theorem x_isiF {m n : String} (ty : TyX K H x (.type m)) (e : kitB m n = some false) (h : Q (.bl false) H) : rIsi K [x, .ty n] H Q := x_isi ty e h
theorem tyx_list {p : Addr} {xs : List V} (a : SqL K H p xs) : TyX K H (.ref p) (.type "list") := by
  rcases a with (a | ⟨o, a⟩) | ⟨o, its, n, a, b, _⟩
  · exact .base (.lst a)
  · exact .base (.frz a)
  · exact .kList a b
theorem tyx_tup {p : Addr} {xs : List V} (a : SqT K H p xs) : TyX K H (.ref p) (.type "tuple") := by
  rcases a with (a | ⟨o, a⟩) | ⟨o, its, n, a, b, _⟩
  · exact .base (.tup a)
  · exact .fTuple a
  · exact .kTuple a b
theorem x_len {m : Nat} (e : LenV K x H m) (h : Q (.int m) H) : rLenN K [x] H Q := ⟨x, m, rfl, e, h⟩
theorem x_ixL {p : Addr} {xs : List V} {j : Int} (a : SqL K H p xs) (e : atI xs j = some v) (h : Q v H) : rIxL K (.ref p) (.int j) H Q := ⟨p, xs, j, v, rfl, rfl, a, e, h⟩
theorem x_ixT {p : Addr} {xs : List V} {j : Int} (a : SqT K H p xs) (e : atI xs j = some v) (h : Q v H) : rIxT K (.ref p) (.int j) H Q := ⟨p, xs, j, v, rfl, rfl, a, e, h⟩
theorem x_inS {c : Nat} {z : Str} (h : Q (.bl (decide (c ∈ z.cps.toList))) H) : rInS (.str ⟨#[c]⟩) (.str z) H Q := ⟨c, z, rfl, rfl, h⟩
theorem x_T {A B : Prop} (h : A) : if true = true then A else B := by rw [if_pos rfl]; exact h
theorem x_F {A B : Prop} (h : B) : if false = true then A else B := by rw [if_neg Bool.false_ne_true]; exact h
theorem x_bT {A B : Prop} {b : Bool} (e : b = true) (h : A) : if b = true then A else B := by rw [if_pos e]; exact h
theorem x_bF {A B : Prop} {b : Bool} (e : b = false) (h : B) : if b = true then A else B := by rw [e, if_neg Bool.false_ne_true]; exact h
theorem x_2 {A B : Prop} {b : Bool} (h1 : b = true → A) (h2 : b = false → B) : if b = true then A else B := by
  cases b with
  | true => exact x_T (h1 rfl)
  | false => exact x_F (h2 rfl)
theorem x_d {A B P : Prop} [Decidable P] (h1 : P → A) (h2 : ¬ P → B) : if decide P = true then A else B := by
  by_cases h : P
  · rw [decide_eq_true h]; exact x_T (h1 h)
  · rw [decide_eq_false h]; exact x_F (h2 h)
theorem x_nd {A B P : Prop} [Decidable P] (h1 : ¬ P → A) (h2 : P → B) : if (!decide P) = true then A else B := by
  by_cases h : P
  · rw [decide_eq_true h]; exact x_F (h2 h)
  · rw [decide_eq_false h]; exact x_T (h1 h)
theorem x_dT {A B P : Prop} [Decidable P] (h : P) (h1 : A) : if decide P = true then A else B := x_d (fun _ => h1) fun n => absurd h n
theorem x_dF {A B P : Prop} [Decidable P] (h : ¬ P) (h1 : B) : if decide P = true then A else B := x_d (fun q => absurd q h) fun _ => h1
theorem x_ndT {A B P : Prop} [Decidable P] (h : ¬ P) (h1 : A) : if (!decide P) = true then A else B := x_nd (fun _ => h1) fun q => absurd q h
theorem x_ndF {A B P : Prop} [Decidable P] (h : P) (h1 : B) : if (!decide P) = true then A else B := x_nd (fun n => absurd h n) fun _ => h1
theorem x_nT {A B : Prop} (h : B) : if (!true) = true then A else B := x_F h
theorem x_nF {A B : Prop} (h : A) : if (!false) = true then A else B := x_T h
end
end Ob
/-! Ob: further rules: a, *rest = tuple; enumerate(tuple) -/
namespace Ob
open PySem PySem.Spec PyProof.Rows L2 StX PySem.Calls

/-! ### a, *rest = t -/
section
variable {prog : Program} {w : World} {A : Around} {E : Value → Shared → Prop} {s : Shared} {env : Env} {elts : List Expr} {k : Nat} {pos : Pos}
theorem starT {l : Addr} {items : Array Value} {n i : Nat} {Q : List Value → Shared → Prop} (hl : IsTup s.heap l items) (hh : A.handled = none) (hi : i < n) (hn : n ≤ items.size + 1) (hz : items.size ≤ 16384)
    (h : ∀ (h' : Heap) (tk : Nat), (∀ b o, s.heap.get? b = some o → h'.get? b = some o) →
      Q (items.toList.take i ++ [.ref h'.objs.size] ++ (items.toList.drop i).drop (items.size + 1 - n)) { s with heap := h'.push { cls := .type "list", data := .seq ((items.toList.drop i).take (items.size + 1 - n)).toArray }, toks := tk }) : wpAny (model prog w) A (unpackItems (.ref l) n (some i)) Q E s := by
  have hlt : l ≠ s.heap.objs.size := by obtain ⟨o, ho, _⟩ := hl; exact Nat.ne_of_lt (Heap.lt_size ho)
  unfold unpackItems
  refine wpAny_bind ?_
  unfold notIterableAtAll
  refine wpAny_bind (wpAny_specialOf hl.typeIs slot_tuple_iter.lookup ?_)
  refine wpAny_pure ?_
  simp only [Bool.false_eq_true, if_false]
  refine wpAny_bind (wpAny_holding (iter_tuple hl ?_))
  refine wpAny_bind (wpAny_holding (draw_tuple hlt i 0 _ _ ⟨_, Heap.get?_push_size _ rfl, rfl, rfl⟩ (hl.push _) (by omega) fun h₁ hit₁ hs₁ => ?_))
  have hl₁ : IsTup h₁ l items := (hl.push _).extBut hs₁.extBut hlt
  rw [Nat.zero_add] at hit₁
  have hit₁' := hit₁
  obtain ⟨oi, hoi, _⟩ := hit₁'
  have hl₁' := hl₁
  obtain ⟨ol, hol, _⟩ := hl₁'
  rw [List.drop_zero]
  have hfl : (items.toList.take i).length = i := by rw [List.length_take, Array.length_toList]; omega
  rw [if_neg (show ¬ ((items.toList.take i).length < i) by rw [hfl]; omega)]
  refine wpAny_bind (wpAny_holding (PySem.W.kun_collect (s := { s with heap := h₁ }) (T := "tuple_iterator") (.inr (.inr (.inr rfl))) (Walks.tuple (A := A.in1) hh s.heap.objs.size l hlt items) (fun j u st => st.1.typeIs) (k := i) (by omega) ⟨hit₁, hl₁⟩ (Heap.lt_size hoi) (Heap.lt_size hol) (fun h₂ tk hk => ?_) (by rw [sizeLine_eq]; omega)))
  have hrl : (items.toList.drop i).length = items.size - i := by rw [List.length_drop, Array.length_toList]
  have hmid : (items.toList.drop i).length - (n - 1 - i) = items.size + 1 - n := by rw [hrl]; omega
  show wpAny _ _ (if (items.toList.drop i).length < n - 1 - i then _ else _) _ _ _
  rw [if_neg (by rw [hrl]; omega)]
  show wpAny _ _ (newList ((items.toList.drop i).take ((items.toList.drop i).length - (n - 1 - i))) >>= fun d => pure (items.toList.take i ++ [d] ++ (items.toList.drop i).drop ((items.toList.drop i).length - (n - 1 - i)))) _ _ _
  rw [hmid]
  have he : Heap.ExtBut s.heap.objs.size s.heap h₂ := fun b o hb e => hk b o hb (hs₁.extBut b o hb (Heap.get?_push_of_some _ e))
  refine wpAny_bind ?_
  simp only [newList]
  have hl3 : ((items.toList.drop i).take (items.size + 1 - n)).length ≤ sizeLine := by rw [List.length_take, hrl, sizeLine_eq]; omega
  refine wpAny_newObj_type ?_ (show ((items.toList.drop i).take (items.size + 1 - n)).toArray.size ≤ sizeLine by rw [List.size_toArray]; exact hl3)
  exact wpAny_pure (h h₂ tk fun b o e => he b o (Nat.ne_of_lt (Heap.lt_size e)) e)
end
/-- x, *r = a tuple: x its first item, r a new list of the others -/
def gStar (K : PySem.W.Frag) (g1 g2 : TG) : TG := fun v σ H Q => ∃ a x xs, v = .ref a ∧ SqT K H a (x :: xs) ∧ xs.length ≤ 16000 ∧ ∀ D, H D = none → g1 x σ (upd H D (.lst xs)) fun σ1 H1 => g2 (.ref D) σ1 H1 Q
theorem pg_star {X : Cx} {e1 e2 : Expr} {k : Nat} {pos p2 : Pos} {g1 g2 : TG} (hc : X.calm = true) (h1 : PG X e1 g1) (h2 : PG X e2 g2)
    (hn : (assignEach [e1, .Starred e2 p2] X.env).length = 2 := by rfl) (hst : (assignEach [e1, .Starred e2 p2] X.env).findIdx? (·.1) = some 1 := by rfl)
    (hm : (assignEach [e1, .Starred e2 p2] X.env).map (·.2) = [assign e1 X.env, assign e2 X.env] := by rfl) : PG X (.Tuple [e1, .Starred e2 p2] k pos) (gStar X.K g1 g2) := by
  refine ⟨fun pins s σ H v u Q I r hw => ?_⟩
  obtain ⟨a, x, xs, e, hq, hl, hw⟩ := hw
  subst e
  cases r
  obtain ⟨its, rv, ht, hz⟩ := I.tuple hq
  rw [assign_Tuple]
  refine wpAny_bind (wpAny_standAt ?_)
  unfold unpack
  rw [hn, hst, hm]
  cases rv with
  | @cons _ u0 _ us r0 rs =>
    have hlen : us.length = xs.length := rs.length.symm
    refine wpAny_bind (wpAny_holding (starT (i := 1) (n := 2) ht (I.ok.hd hc) (by omega) (by simp) (by simp; omega) fun h' tk hk => ?_))
    have e1 : (List.take 1 (u0 :: us).toArray.toList ++ [Value.ref h'.objs.size] ++ List.drop ((u0 :: us).toArray.size + 1 - 2) (List.drop 1 (u0 :: us).toArray.toList)) = [u0, .ref h'.objs.size] := by simp
    have e2 : List.take ((u0 :: us).toArray.size + 1 - 2) (List.drop 1 (u0 :: us).toArray.toList) = us := by simp
    rw [e1, e2]
    have I1 : Inv X pins σ H { s with heap := h', toks := tk } := I.kept hk
    have hf : H h'.objs.size = none := I1.hok.fresh (Nat.le_refl _)
    have I2 : Inv X pins σ (upd H h'.objs.size (.lst xs)) { s with heap := h'.push { cls := .type "list", data := .seq us.toArray }, toks := tk } := by
      refine I1.laid (t' := tk) (fun b o e => Heap.get?_push_of_some _ e) (Nat.le_refl _) ⟨by simp at hz; omega, us, 0, rs, Heap.get?_push_size _ rfl⟩
    refine assignInOrder_cons (thn (h1.run pins _ σ _ x u0 _ I2 r0 (hw _ hf)) fun _ s1 ⟨σ1, H1, I3, q1⟩ => ?_)
    refine assignInOrder_cons (thn (h2.run pins s1 σ1 H1 (.ref h'.objs.size) _ Q I3 rfl q1) fun _ s2 q2 => ?_)
    exact assignInOrder_nil q2

/-! ### enumerate(t) -/
theorem meets_enumerate_newT (l : Addr) (items : Array Value) :
    Meets (Builtin.«enumerate.__new__» ⟨[.type "enumerate", .ref l], []⟩) (fun _ R s => s.heap.IsTuple l items ∧
      R (.ok (.ret (.ref (s.heap.push { cls := .type "tuple_iterator", data := .fields #[.ref l, .int 0 0] }).objs.size)))
        { s with heap := (s.heap.push { cls := .type "tuple_iterator", data := .fields #[.ref l, .int 0 0] }).push { cls := .type "enumerate", data := .fields #[.none, .bool false, .ref s.heap.objs.size, rawInt 0, .none, .none] } }) :=
  .of_wp fun prog w A R s h => by
    obtain ⟨hp, g, d, tk, os⟩ := s; obtain ⟨h1, h⟩ := h
    have hsub := sub_enumerate
    have q1 : ∀ {A' : Around} {E : Value → Shared → Prop} {Q : Value → Shared → Prop}, Q (.ref hp.objs.size) ⟨hp.push { cls := .type "tuple_iterator", data := .fields #[.ref l, .int 0 0] }, g, d, tk, os⟩ → wpAny (model prog w) A' (pyIter (.ref l)) Q E ⟨hp, g, d, tk, os⟩ :=
      fun q => (begins_tuple l items).iter prog w _ _ ⟨hp, g, d, tk, os⟩ _ h1 q
    wp_walk using q1
    refine wpAny_stack_any fun st => wpAny_pure ?_
    split
    · rename_i c _ _ _ _ _
      cases (c == Value.type "enumerate")
      · wp_walk using q1
        exact ⟨_, rfl, h⟩
      · wp_walk using q1
        exact ⟨_, rfl, h⟩
    · wp_walk using q1
      exact ⟨_, rfl, h⟩
section
variable {prog : Program} {w : World} {A : Around} {E : Value → Shared → Prop} {s : Shared}
theorem call_enumerate_tup {l : Addr} {items : Array Value} {Q : Value → Shared → Prop} (hL : s.heap.IsTuple l items)
    (h : ∀ h', IsEnum h' (s.heap.objs.size + 1) s.heap.objs.size 0 .none → h'.IsTupleIter s.heap.objs.size l 0 →
      (∀ b o, s.heap.get? b = some o → h'.get? b = some o) → Q (.ref (s.heap.objs.size + 1)) { s with heap := h' }) :
    wpAny (model prog w) A (call (.type "enumerate") [.ref l]) Q E s := by
  refine callType_new F.called_enumerate (by decide) (F.typeCall_enumerate_1 _) (F.newCall_enumerate_1 _) (fun obj => F.args_object_init_2 obj _) F.entry_enumerate_new
    (meets_enumerate_newT l items) ⟨hL, ?_⟩
  have hz : (s.heap.push { cls := .type "tuple_iterator", data := .fields #[.ref l, .int 0 0] }).objs.size = s.heap.objs.size + 1 := Heap.size_push ..
  show _ ∧ _
  rw [hz]
  have he : IsEnum ((s.heap.push { cls := .type "tuple_iterator", data := .fields #[.ref l, .int 0 0] }).push
      { cls := .type "enumerate", data := .fields #[.none, .bool false, .ref s.heap.objs.size, rawInt 0, .none, .none] }) (s.heap.objs.size + 1) s.heap.objs.size 0 .none := by
    have := Heap.get?_push_size (s.heap.push { cls := .type "tuple_iterator", data := .fields #[.ref l, .int 0 0] })
      (o := { cls := .type "enumerate", data := .fields #[.none, .bool false, .ref s.heap.objs.size, rawInt 0, .none, .none] }) rfl
    rw [hz] at this; exact this
  exact ⟨⟨_, he, rfl⟩, h _ he ⟨_, Heap.get?_push_of_some _ (Heap.get?_push_size _ rfl), rfl, rfl⟩ fun b o x => Heap.get?_push_of_some _ (Heap.get?_push_of_some _ x)⟩
end
def ItT (K : PySem.W.Frag) (a : Addr) : It :=
  ⟨fun i H => ∃ (xs : List V) (x : V), SqT K H a xs ∧ xs[i]? = some x, fun i H v H' => ∃ T x, v = .ref T ∧ H T = none ∧ H' = upd H T (.tup [.int (i : Nat), x]) ∧ ∀ xs, SqT K H a xs → xs[i]? = some x, fun i H => ∃ xs : List V, SqT K H a xs ∧ xs.length ≤ i⟩
theorem turn_enumT {P : Program} {w : World} {K : PySem.W.Frag} {elts : List Expr} {kk : Nat} {tpos : Pos} (a e it : Addr) :
    Turn P w K (.Tuple elts kk tpos) (ItT K a) [e, it] e (fun i h => (∃ old, IsEnum h e it ((i : Nat) : Int) old) ∧ h.IsTupleIter it a i ∧ e ≠ it) where
  mem := by simp
  obj := fun i h st b hb => by
    obtain ⟨⟨old, he⟩, ⟨o, ho, hc, hd⟩, _⟩ := st
    have e' : b = e ∨ b = it := by simpa using hb
    rcases e' with z | z
    · rw [z]; exact ⟨_, he, fun v q => nomatch q⟩
    · rw [z]; exact ⟨o, ho, fun v q => by rw [hd] at q; cases q⟩
  keep := fun i h h' st k => let ⟨⟨old, he⟩, hi, hne⟩ := st; ⟨⟨old, k e (by simp) _ he⟩, hi.at fun o q => k it (by simp) o q, hne⟩
  item := by
    intro X hP hw hK hc i pins s σ H E I hf st hg
    subst hP hw hK
    obtain ⟨⟨old, he⟩, hit, hne⟩ := st
    obtain ⟨xs, x, hq, hx⟩ := hg
    obtain ⟨its, rv, p, hz⟩ := I.tuple hq
    obtain ⟨u, hu, ru⟩ := rv.get hx
    have hel : e < s.heap.objs.size := Heap.lt_size he
    have hil : it < s.heap.objs.size := by obtain ⟨_, q, _⟩ := hit; exact Heap.lt_size q
    have hae : a ≠ e := fun z => by
      obtain ⟨o, ho, hoc, _⟩ := p
      rw [z, he] at ho
      have e1 := Option.some.inj ho
      rw [← e1] at hoc
      exact absurd (Value.type.inj hoc) (by decide)
    have hai : a ≠ it := fun z => by
      obtain ⟨o, ho, hoc, _⟩ := p
      obtain ⟨o2, ho2, hoc2, _⟩ := hit
      rw [z, ho2] at ho
      have e1 := Option.some.inj ho
      rw [← e1, hoc2] at hoc
      exact absurd (Value.type.inj hoc) (by decide)
    have hlt : i < its.toArray.size := by
      have := (List.getElem?_eq_some_iff.mp hu).1
      simpa using this
    refine wpAny_pyNext_enum_itemD (Draws.tuple (A := X.A.in1) (I.ok.hd hc) it a hai its.toArray) he ⟨hit, p⟩ hlt hne (by simp; exact ⟨hne, Ne.symm hae⟩) fun y h' tk hP ho hst hT hsz hk => ?_
    have hy : y = u := by
      have q : its.toArray[i]? = some u := by simpa using hu
      rw [q] at hP
      exact (Option.some.inj hP).symm
    subst hy
    obtain ⟨hit', _⟩ := hst
    refine ⟨_, rfl, wpAny_letOwnedTupleGo_enum (s := { s with heap := h', toks := tk + 1 }) ho fun h'' he' sb => ?_⟩
    have hT2 : h''.get? s.heap.objs.size = some { cls := .type "tuple", data := .seq #[.int i tk, y] } := (sb.2 _ (Nat.ne_of_gt hel)).trans hT
    have new : ObjOk X.prog X.w (upd H s.heap.objs.size (.tup [.int (i : Nat), x])) h'' s.heap.objs.size (.tup [.int (i : Nat), x]) :=
      ⟨by show 2 ≤ sizeLine; decide, [.int i tk, y], .cons ⟨_, rfl⟩ (.cons ru .nil), ⟨_, hT2, rfl, _, rfl⟩⟩
    have I1 : Inv X pins σ (upd H s.heap.objs.size (.tup [.int (i : Nat), x])) { s with heap := h'', toks := tk + 1 } :=
      I.turnedNew (ch := [e, it]) (fun b ob hb q => (sb.2 b (fun z => hb (by simp [z]))).trans (hk b ob (fun z => hb (by simp [z])) (fun z => hb (by simp [z])) q)) hf (Nat.le_refl _) new
    refine ⟨.ref s.heap.objs.size, _, I1, rfl, ⟨_, x, rfl, I.hok.fresh (Nat.le_refl _), rfl, fun ys hy => by rw [I.tuple_inj hy hq]; exact hx⟩, ⟨⟨y, ?_⟩, hit'.at fun o q => (sb.2 it (Ne.symm hne)).trans q, hne⟩, fun b hb => ?_⟩
    · have e1 : ((i + 1 : Nat) : Int) = (i : Int) + 1 := by omega
      rw [e1]; exact he'
    · have hb' : b < s.heap.objs.size := by
        have e' : b = e ∨ b = it := by simpa using hb
        rcases e' with z | z
        · rw [z]; exact hel
        · rw [z]; exact hil
      rw [upd_ne (Nat.ne_of_lt hb')]
      exact (hf b hb).1
  done := by
    intro X hP hw hK hc i pins s σ H E I hf st hg
    subst hP hw hK
    obtain ⟨⟨old, he⟩, hit, hne⟩ := st
    obtain ⟨xs, hq, hx⟩ := hg
    obtain ⟨its, rv, p, hz⟩ := I.tuple hq
    obtain ⟨f0, f1, f2, f3, f4, f5⟩ := hf it (by simp)
    have hl := rv.length
    have hai : a ≠ it := fun z => by
      obtain ⟨o, ho, hoc, _⟩ := p
      obtain ⟨o2, ho2, hoc2, _⟩ := hit
      rw [z, ho2] at ho
      have e1 := Option.some.inj ho
      rw [← e1, hoc2] at hoc
      exact absurd (Value.type.inj hoc) (by decide)
    have hnone : its.toArray[i]? = none := by simp; omega
    have hT : s.TypeIs (.ref e) "enumerate" := ⟨_, he, rfl⟩
    unfold pyNext
    refine wpAny_bind (wpAny_attempt (wpAny_callSpecial?_slot (name := Str.ofString "__next__") hT F.slot_enumerate_next
      (wpAny_call_entry F.slot_enumerate_next hT F.entry_enumerate_next ?_ (F.args_enumerate_next_1 _))))
    show wpAny _ _ (field (.ref e) 2 >>= _) _ _ _
    refine wpAny_bind (wpAny_field he rfl (x := .ref it) rfl ?_)
    refine wpAny_bind (wpAny_nextOf_tuple_end (show X.A.in1.handled = none from I.ok.hd hc) hit p hnone fun h' x he' hx' => ?_)
    obtain ⟨o, ho, hoc⟩ := hx'
    refine wpAny_bind (wpAny_isInstance (T := "StopIteration") (b := true) ⟨o, ho, hoc⟩ isSubtype_stop ?_)
    exact wpAny_pure ⟨rfl, I.turned (t' := s.toks) (fun b o hb q => he' b o hb q) f0 f1 f3 f4 f5⟩
  self := fun A i s Q E st h => let ⟨⟨_, he⟩, _⟩ := st; wpAny_pyIter_enum he h
def iEnumT (K : PySem.W.Frag) (ta : TA) : TI := fun σ H R => ta σ H fun vs H1 => ∃ a xs, vs = [.ref a] ∧ SqT K H1 a xs ∧ R (ItT K a) H1
theorem pi_enumT {X : Cx} {e : Expr} {ta : TA} {p pos tpos : Pos} {elts : List Expr} {kk : Nat} (hg : Gl X "enumerate") (hm : X.mg "enumerate" = none) (ha : PA X [e] ta) (hs : starEach [e] X.env = [(false, eval e X.env)] := by rfl) :
    PI X (.Tuple elts kk tpos) (.Call (.Name "enumerate" p) [e] [] pos) (iEnumT X.K ta) := by
  refine ⟨fun pins s σ H R I h => ?_⟩
  refine Call_ (ld_blt I hg hm boot_enumerate (PyProof.Rows.callWith_type1 (thn (ha.run pos pins s σ H _ I h) fun us s1 ⟨vs, H1, I1, r1, q1⟩ => ?_) hs rfl))
  obtain ⟨a, xs, ex, hq, q⟩ := q1
  subst ex
  cases r1 with
  | cons r rr =>
    cases rr
    cases r
    obtain ⟨its, rv, p', hz⟩ := I1.tuple hq
    refine call_enumerate_tup p' fun h' he hit hk => wpAny_pyIter_enum he ?_
    have I2 : Inv X pins σ H1 { s1 with heap := h' } := I1.kept (t' := s1.toks) hk
    refine ⟨s1.heap.objs.size + 1, [s1.heap.objs.size + 1, s1.heap.objs.size], _, _, H1, rfl, I2, turn_enumT a (s1.heap.objs.size + 1) s1.heap.objs.size, ⟨⟨.none, he⟩, hit, Nat.succ_ne_self _⟩, fun b hb => ?_, q⟩
    have e' : b = s1.heap.objs.size + 1 ∨ b = s1.heap.objs.size := by simpa using hb
    have hle : s1.heap.objs.size ≤ b := by
      rcases e' with z | z
      · rw [z]; exact Nat.le_add_right _ _
      · rw [z]; exact Nat.le_refl _
    exact I1.fpOk hle (I1.hok.fresh hle)
/-- for i, x in enumerate(a tuple): the pair is a new tuple -/
theorem for_enumT {K : PySem.W.Frag} {a : Addr} {xs : List V} {g : TG} {tb : TS} {D : Ends} {σ : L2.St} {H : Hp} (Pv : Nat → L2.St → Hp → Prop) (h0 : Pv 0 σ H) (hl : ∀ i σ H, i ≤ xs.length → Pv i σ H → SqT K H a xs)
    (hs : ∀ i x T σ H, xs[i]? = some x → Pv i σ H → H T = none → g (.ref T) σ (upd H T (.tup [.int (i : Nat), x])) fun σ2 H2 => tb { D with nx := Pv (i + 1), ct := Pv (i + 1), bk := D.nx } σ2 H2) (hd : ∀ σ H, Pv xs.length σ H → D.nx σ H) :
    ∃ W : Nat → Nat → L2.St → Hp → Prop, (∃ m, W 0 m σ H) ∧ ∀ i m σ H, W i m σ H →
      ((ItT K a).stop i H ∧ D.nx σ H) ∨ ((ItT K a).go i H ∧ ∃ N : L2.St → Hp → Prop, (∀ σ' H', N σ' H' → ∃ m', m' < m ∧ W (i + 1) m' σ' H') ∧ ∀ x H', (ItT K a).yld i H x H' → g x σ H' fun σ2 H2 => tb { D with nx := N, ct := N, bk := D.nx } σ2 H2) := by
  refine ⟨fun i m σ H => m = xs.length - i ∧ i ≤ xs.length ∧ Pv i σ H, ⟨xs.length, by simp, Nat.zero_le _, h0⟩, ?_⟩
  rintro i m σ H ⟨rfl, hi, p⟩
  have q := hl i σ H hi p
  by_cases hlt : i < xs.length
  · refine .inr ⟨⟨xs, xs[i], q, by simp [hlt]⟩, Pv (i + 1), fun σ' H' p' => ⟨xs.length - (i + 1), by omega, rfl, hlt, p'⟩, fun x H' y => ?_⟩
    obtain ⟨T, z, e1, e2, e3, e4⟩ := y
    subst e1 e3
    exact hs i z T σ H (e4 xs q) p e2
  · have e : i = xs.length := by omega
    subst e
    exact .inl ⟨⟨xs, q, Nat.le_refl _⟩, hd σ H p⟩
end Ob
/-! Ob: data in the heap: what persists; mirrors of loops.py on data -/
namespace Ob
open PySem PySem.Spec PyProof.Rows L2 StX

/-! ### what stays -/
theorem sqT_same {K : PySem.W.Frag} {H H' : Hp} {a : Addr} {xs : List V} (e : Same H H') (h : SqT K H a xs) : SqT K H' a xs := by
  rcases h with (h | ⟨o, h⟩) | h
  · exact .inl (.inl (e _ _ h))
  · exact .inl (.inr ⟨o, e _ _ h⟩)
  · exact .inr h
mutual
theorem Dp.same {K : PySem.W.Frag} {H H' : Hp} (e : Same H H') : ∀ (d : PyData) (v : V), Dp K H v d → Dp K H' v d
  | .none, _, h => by cases h; exact .non
  | .bool b, _, h => by cases h; exact .bl b
  | .int i, _, h => by cases h; exact .int i
  | .str x, _, h => by cases h; exact .str x
  | .list ds, _, h => by cases h with | lst a b => exact .lst (e.seq a) (DpAll.same e ds _ b)
  | .tuple ds, _, h => by cases h with | tup a b => exact .tup (sqT_same e a) (DpAll.same e ds _ b)
  | .dict _, _, h => by cases h
theorem DpAll.same {K : PySem.W.Frag} {H H' : Hp} (e : Same H H') : ∀ (ds : List PyData) (vs : List V), DpAll K H vs ds → DpAll K H' vs ds
  | [], _, h => by cases h; exact .nil
  | d :: ds, _, h => by cases h with | cons a b => exact .cons (Dp.same e d _ a) (DpAll.same e ds _ b)
end
/-- tuples stay -/
def Tx (H H' : Hp) : Prop := ∀ a xs, Rd H a (.tup xs) → Rd H' a (.tup xs)
theorem Tx.refl (H : Hp) : Tx H H := fun _ _ h => h
theorem Tx.trans {H H1 H2 : Hp} (a : Tx H H1) (b : Tx H1 H2) : Tx H H2 := fun c o h => b c o (a c o h)
theorem Tx.of_same {H H' : Hp} (e : Same H H') : Tx H H' := fun a xs h => by
  rcases h with h | ⟨o, h⟩
  · exact .inl (e _ _ h)
  · exact .inr ⟨o, e _ _ h⟩
theorem Tx.new {H : Hp} {p : Addr} {o : HO} (h : H p = none) : Tx H (upd H p o) := fun a xs q => by
  rcases q with q | ⟨u, q⟩
  · exact .inl (by rw [upd_ne (ne_of_none q h)]; exact q)
  · exact .inr ⟨u, by rw [upd_ne (ne_of_none q h)]; exact q⟩
theorem Tx.put {H : Hp} {p : Addr} {o u : HO} (h : H p = some u) (h1 : ∀ xs, u ≠ .tup xs) (h2 : ∀ ob xs, u ≠ .frz ob (.tup xs)) : Tx H (upd H p o) := fun a xs q => by
  have ne : a ≠ p := fun z => by
    rcases q with q | ⟨w, q⟩
    · rw [z, h] at q; exact h1 _ (Option.some.inj q)
    · rw [z, h] at q; exact h2 _ _ (Option.some.inj q)
  rcases q with q | ⟨w, q⟩
  · exact .inl (by rw [upd_ne ne]; exact q)
  · exact .inr ⟨w, by rw [upd_ne ne]; exact q⟩
theorem Tx.lst {H : Hp} {p : Addr} {o : HO} {xs : List V} (h : H p = some (.lst xs)) : Tx H (upd H p o) := Tx.put h (fun _ z => by cases z) fun _ _ z => by cases z
theorem Tx.ins {H : Hp} {p : Addr} {o : HO} {C dx : Addr} {fs : List (Str × V)} (h : H p = some (.ins C dx fs)) : Tx H (upd H p o) := Tx.put h (fun _ z => by cases z) fun _ _ z => by cases z
theorem sqT_tx {K : PySem.W.Frag} {H H' : Hp} {a : Addr} {xs : List V} (e : Tx H H') (h : SqT K H a xs) : SqT K H' a xs := by
  rcases h with h | h
  · exact .inl (e _ _ h)
  · exact .inr h
/-! data without lists and dicts -/
mutual
def tupOnly : PyData → Bool
  | .none => true
  | .bool _ => true
  | .int _ => true
  | .str _ => true
  | .list _ => false
  | .tuple ds => tupOnlyAll ds
  | .dict _ => false
def tupOnlyAll : List PyData → Bool
  | [] => true
  | d :: ds => tupOnly d && tupOnlyAll ds
end
mutual
theorem Dp.tx {K : PySem.W.Frag} {H H' : Hp} (e : Tx H H') : ∀ (d : PyData) (v : V), tupOnly d = true → Dp K H v d → Dp K H' v d
  | .none, _, _, h => by cases h; exact .non
  | .bool b, _, _, h => by cases h; exact .bl b
  | .int i, _, _, h => by cases h; exact .int i
  | .str x, _, _, h => by cases h; exact .str x
  | .list ds, _, t, h => by cases t
  | .tuple ds, _, t, h => by cases h with | tup a b => exact .tup (sqT_tx e a) (DpAll.tx e ds _ t b)
  | .dict _, _, _, h => by cases h
theorem DpAll.tx {K : PySem.W.Frag} {H H' : Hp} (e : Tx H H') : ∀ (ds : List PyData) (vs : List V), tupOnlyAll ds = true → DpAll K H vs ds → DpAll K H' vs ds
  | [], _, _, h => by cases h; exact .nil
  | d :: ds, _, t, h => by
    cases h with
    | cons a b =>
      have t2 : (tupOnly d && tupOnlyAll ds) = true := t
      rw [Bool.and_eq_true] at t2
      exact .cons (Dp.tx e d _ t2.1 a) (DpAll.tx e ds _ t2.2 b)
end
theorem DpAll.length {K : PySem.W.Frag} {H : Hp} : ∀ {vs : List V} {ds : List PyData}, DpAll K H vs ds → vs.length = ds.length
  | [], [], _ => rfl
  | _ :: _, [], h => by cases h
  | [], _ :: _, h => by cases h
  | v :: vs, d :: ds, h => by
    cases h with
    | cons _ b => simp [DpAll.length b]
theorem DpAll.get {K : PySem.W.Frag} {H : Hp} : ∀ {vs : List V} {ds : List PyData} {i : Nat} {v : V}, DpAll K H vs ds → vs[i]? = some v → ∃ d, ds[i]? = some d ∧ Dp K H v d
  | [], _, _, _, h, e => by simp at e
  | _ :: _, [], _, _, h, _ => by cases h
  | v :: vs, d :: ds, 0, _, h, e => by
    cases h with
    | cons a b =>
      simp at e
      subst e
      exact ⟨d, rfl, a⟩
  | v :: vs, d :: ds, i + 1, _, h, e => by
    cases h with
    | cons a b =>
      obtain ⟨d', e1, e2⟩ := DpAll.get (i := i) b (by simpa using e)
      exact ⟨d', by simpa using e1, e2⟩
theorem DpAll.take {K : PySem.W.Frag} {H : Hp} : ∀ {vs : List V} {ds : List PyData} (n : Nat), DpAll K H vs ds → DpAll K H (vs.take n) (ds.take n)
  | _, _, 0, _ => by simp; exact .nil
  | [], [], n + 1, _ => by simp; exact .nil
  | _ :: _, [], _, h => by cases h
  | [], _ :: _, _, h => by cases h
  | v :: vs, d :: ds, n + 1, h => by
    cases h with
    | cons a b => simp; exact .cons a (DpAll.take n b)
theorem DpAll.app {K : PySem.W.Frag} {H : Hp} : ∀ {vs ws : List V} {ds es : List PyData}, DpAll K H vs ds → DpAll K H ws es → DpAll K H (vs ++ ws) (ds ++ es)
  | _, _, _, _, .nil, h => h
  | _, _, _, _, .cons a b, h => .cons a (DpAll.app b h)
/-- a tuple of data -/
theorem dp_tup {K : PySem.W.Frag} {H : Hp} {v : V} {ds : List PyData} (h : Dp K H v (.tuple ds)) : ∃ a vs, v = .ref a ∧ SqT K H a vs ∧ DpAll K H vs ds := by
  cases h with
  | tup a b => exact ⟨_, _, rfl, a, b⟩

/-! ### small data -/
mutual
def small : PyData → Bool
  | .str s => decide (s.length ≤ 100000)
  | .list ds => decide (ds.length ≤ 90000) && smallAll ds
  | .tuple ds => decide (ds.length ≤ 90000) && smallAll ds
  | _ => true
def smallAll : List PyData → Bool
  | [] => true
  | d :: ds => small d && smallAll ds
end
theorem smallAll_mem : ∀ {ds : List PyData} {d : PyData}, smallAll ds = true → d ∈ ds → small d = true
  | x :: ds, d, h, m => by
    have h2 : (small x && smallAll ds) = true := h
    rw [Bool.and_eq_true] at h2
    rcases List.mem_cons.mp m with e | m
    · rw [e]; exact h2.1
    · exact smallAll_mem h2.2 m
theorem small_str {s : Str} (h : small (.str s) = true) : s.length ≤ 100000 := of_decide_eq_true h
theorem small_tup {ds : List PyData} (h : small (.tuple ds) = true) : smallAll ds = true := by
  have h2 : (decide (ds.length ≤ 90000) && smallAll ds) = true := h
  rw [Bool.and_eq_true] at h2
  exact h2.2
theorem small_len {ds : List PyData} (h : small (.tuple ds) = true) : ds.length ≤ 90000 := by
  have h2 : (decide (ds.length ≤ 90000) && smallAll ds) = true := h
  rw [Bool.and_eq_true] at h2
  exact of_decide_eq_true h2.1

/-! ### mirrors of loops.py on data -/
def abcd : Str := "abcd"
def abcdE : Str := "abcd$"
def isIntegerD (lo hi : Int) : PyData → Bool
  | .int i => if lo ≤ i then decide (i ≤ hi) else false
  | _ => false
def isItemD : PyData → Bool
  | .str s => match s.cps.toList with
    | [c] => decide (c ∈ abcd.cps.toList)
    | _ => false
  | _ => false
def isTextD : PyData → Bool
  | .str s => s.cps.toList.all fun c => decide (c ∈ abcd.cps.toList)
  | _ => false
def pick (allowed s : Str) : Str := ⟨(allowed.cps.toList.filter fun c => decide (c ∈ s.cps.toList)).toArray⟩
def isSelD (allowed : Str) : PyData → Bool
  | .str s => if s = "" then false else decide (s = pick allowed s)
  | _ => false
/-- the kind of an edit's second element: none: not a word; some none: no second element -/
inductive Kd | item | mark | bare
  deriving DecidableEq
def kdOf (w : Str) : Option Kd :=
  if w = "put" then some .item else if w = "drop" then some .bare else if w = "drop_next" then some .bare else if w = "before" then some .item
  else if w = "after" then some .item else if w = "mark" then some .mark else if w = "break" then some .bare else none
def editRest : Kd → List PyData → Bool
  | .bare, ds => ds.length == 0
  | .item, ds => match ds with
    | [x] => isItemD x
    | _ => false
  | .mark, ds => match ds with
    | [x] => isIntegerD 0 3 x
    | _ => false
def editOf : Option Kd → List PyData → Bool
  | none, _ => false
  | some k, ds => editRest k ds
def isEditD : PyData → Bool
  | .tuple (.str w :: r) => editOf (kdOf w) r
  | _ => false
def wordOf : PyData → Str
  | .tuple (.str w :: _) => w
  | _ => ""
/-- as an edit begins -/
def shE : PyData → Bool
  | .tuple (.str _ :: _) => true
  | _ => false
def countW (ds : List PyData) (ws : List Str) : Nat := (ds.filter fun d => decide (wordOf d ∈ ws)).length
def mayFollowD (ds : List PyData) (d : PyData) : Bool :=
  if ds.length + 1 > 4 then false else if countW ds ["break"] > 0 then false
  else if countW (ds ++ [d]) ["before", "after"] > 1 then false else decide (countW (ds ++ [d]) ["drop", "drop_next"] ≤ 2)
def areEditsFrom : List PyData → List PyData → Bool
  | _, [] => true
  | pre, d :: r => if isEditD d then (if mayFollowD pre d then areEditsFrom (pre ++ [d]) r else false) else false
def areEditsD : PyData → Bool
  | .tuple ds => areEditsFrom [] ds
  | _ => false
def isMarkD : PyData → Bool
  | .none => true
  | d => isIntegerD 0 3 d
def isRuleD : PyData → Bool
  | .tuple [m, it, fo, ed] => if isMarkD m then (if isSelD abcd it then (if isSelD abcdE fo then areEditsD ed else false) else false) else false
  | _ => false
def endOk (d : PyData) : Bool := isTextD d && (match d with
  | .str s => decide (s.length ≤ 4)
  | _ => false)
def endsOk : PyData → Bool
  | .tuple es => if es.length = 4 then es.all endOk else false
  | _ => false
def rulesOk : PyData → PyData → Bool
  | .tuple rs, en => if rs.length ≤ 12 then (if rs.all isRuleD then endsOk en else false) else false
  | _, _ => false
def isLoopD : PyData → Bool
  | .tuple [ru, en] => rulesOk ru en
  | _ => false
def isProgramD : PyData → Bool
  | .tuple ls => if ls.length ≤ 5 then ls.all isLoopD else false
  | _ => false
end Ob
/-! Ob: loops and comprehensions over any source -/
namespace Ob
open PySem PySem.Spec PyProof.Rows L2 StX

/-- J yields xs while Hs holds -/
structure Src (J : It) (xs : List V) (Hs : Hp → Prop) : Prop where
  go : ∀ i H, i < xs.length → Hs H → J.go i H
  yld : ∀ i H x H', Hs H → i < xs.length → J.yld i H x H' → H' = H ∧ xs[i]? = some x
  stop : ∀ H, Hs H → J.stop xs.length H
theorem Src.list {K : PySem.W.Frag} {a : Addr} {xs : List V} : Src (Itl K a) xs (fun H => SqL K H a xs) where
  go := fun i H hi h => ⟨xs, xs[i], h, by simp [hi]⟩
  yld := fun i H x H' h _ y => ⟨y.1, y.2 xs h⟩
  stop := fun H h => ⟨xs, h, Nat.le_refl _⟩
theorem Src.tup {K : PySem.W.Frag} {a : Addr} {xs : List V} : Src (Itt K a) xs (fun H => SqT K H a xs) where
  go := fun i H hi h => ⟨xs, xs[i], h, by simp [hi]⟩
  yld := fun i H x H' h _ y => ⟨y.1, y.2 xs h⟩
  stop := fun H h => ⟨xs, h, Nat.le_refl _⟩
def sgV (z : Str) : List V := z.cps.toList.map fun c => .str ⟨#[c]⟩
theorem Src.str {z : Str} : Src (Its z) (sgV z) (fun _ => True) where
  go := fun i H hi _ => by
    have : i < z.cps.size := by simpa [sgV] using hi
    exact this
  yld := fun i H x H' _ hi y => by
    obtain ⟨e, c, h1, h2⟩ := y
    refine ⟨e, ?_⟩
    subst h2
    have h3 : z.cps.toList[i]? = some c := by simpa using h1
    simp [sgV, h3]
  stop := fun H _ => by
    show z.cps.size ≤ (sgV z).length
    simp [sgV]
def rngV (lo : Int) (n : Nat) : List V := (List.range n).map fun i : Nat => .int (lo + (i : Int))
theorem Src.rng {lo : Int} {n : Nat} : Src (Itr lo n) (rngV lo n) (fun _ => True) where
  go := fun i H hi _ => by
    have : i < n := by simpa [rngV] using hi
    exact this
  yld := fun i H x H' _ hi y => by
    obtain ⟨e, h2⟩ := y
    have : i < n := by simpa [rngV] using hi
    exact ⟨e, by rw [h2]; simp [rngV, this]⟩
  stop := fun H _ => by
    show n ≤ (rngV lo n).length
    simp [rngV]

/-- the reading of a comprehension over a source, by an invariant -/
theorem lcg {J : It} {xs : List V} {Hs : Hp → Prop} (S : Src J xs Hs) {g : TG} {tt : TT} {te : TE} {vs : List Nat} {σ : L2.St} {H1 : Hp} {D : Addr} {Qd : Hp → Prop} (Pv : Nat → Hp → Prop) (h0 : Pv 0 (upd H1 D (.lst []))) (hl : ∀ i H, i ≤ xs.length → Pv i H → Hs H)
    (hs : ∀ i x H, xs[i]? = some x → Pv i H → g x (wipe σ vs) H fun σ2 H2 => wipe σ2 vs = wipe σ vs ∧ tt σ2 H2 fun b H3 =>
      if b = true then te σ2 H3 fun y H4 => ∃ acc, H4 D = some (.lst acc) ∧ acc.length < sizeLine ∧ Pv (i + 1) (upd H4 D (.lst (acc ++ [y]))) else Pv (i + 1) H3) (hd : ∀ H, Pv xs.length H → Qd H) :
    ∃ W : Nat → Nat → Hp → Prop, (∃ m, W 0 m (upd H1 D (.lst []))) ∧ ∀ i m H, W i m H →
      (J.stop i H ∧ Qd H) ∨ (J.go i H ∧ ∃ Nx : Hp → Prop, (∀ H', Nx H' → ∃ m', m' < m ∧ W (i + 1) m' H') ∧ ∀ x H', J.yld i H x H' → g x (wipe σ vs) H' fun σ2 H2 => wipe σ2 vs = wipe σ vs ∧ tt σ2 H2 fun b H3 =>
        if b = true then te σ2 H3 fun y H4 => ∃ acc, H4 D = some (.lst acc) ∧ acc.length < sizeLine ∧ Nx (upd H4 D (.lst (acc ++ [y]))) else Nx H3) := by
  refine ⟨fun i m H => m = xs.length - i ∧ i ≤ xs.length ∧ Pv i H, ⟨xs.length, by simp, Nat.zero_le _, h0⟩, ?_⟩
  rintro i m H ⟨rfl, hi, p⟩
  have q := hl i H hi p
  by_cases hlt : i < xs.length
  · refine .inr ⟨S.go i H hlt q, Pv (i + 1), fun H' p' => ⟨xs.length - (i + 1), by omega, rfl, hlt, p'⟩, fun x H' y => ?_⟩
    obtain ⟨e, y2⟩ := S.yld i H x H' q hlt y
    subst e
    exact hs i x _ y2 p
  · have e : i = xs.length := by omega
    subst e
    exact .inl ⟨S.stop H q, hd H p⟩
/-- a block that only adds objects -/
theorem lcP {J : It} {xs : List V} {Hs : Hp → Prop} (S : Src J xs Hs) {g : TG} {tt : TT} {te : TE} {vs : List Nat} {σ : L2.St} {H1 : Hp} {D : Addr} {Qd : Hp → Prop} (hHs : ∀ H', Same H1 H' → Hs H') (hD : H1 D = none) (hz : xs.length ≤ 100000) (f : V → Option V)
    (hb : ∀ x, x ∈ xs → ∀ H', Same H1 H' → ∀ (Y : V → Hp → Prop) (N : Hp → Prop), (∀ y H'', f x = some y → Same H' H'' → Y y H'') → (∀ H'', f x = none → Same H' H'' → N H'') →
      g x (wipe σ vs) H' fun σ2 H2 => wipe σ2 vs = wipe σ vs ∧ tt σ2 H2 fun b H3 => if b = true then te σ2 H3 Y else N H3)
    (hd : ∀ H', Same H1 H' → H' D = some (.lst (xs.filterMap f)) → Qd H') :
    ∃ W : Nat → Nat → Hp → Prop, (∃ m, W 0 m (upd H1 D (.lst []))) ∧ ∀ i m H, W i m H →
      (J.stop i H ∧ Qd H) ∨ (J.go i H ∧ ∃ Nx : Hp → Prop, (∀ H', Nx H' → ∃ m', m' < m ∧ W (i + 1) m' H') ∧ ∀ x H', J.yld i H x H' → g x (wipe σ vs) H' fun σ2 H2 => wipe σ2 vs = wipe σ vs ∧ tt σ2 H2 fun b H3 =>
        if b = true then te σ2 H3 fun y H4 => ∃ acc, H4 D = some (.lst acc) ∧ acc.length < sizeLine ∧ Nx (upd H4 D (.lst (acc ++ [y]))) else Nx H3) := by
  have up : ∀ {H H'' : Hp} {o : HO}, Same H1 H → Same H H'' → Same H1 (upd H'' D o) := fun {H H'' o} a b c u e => by
    rw [upd_ne (ne_of_none e hD)]
    exact b _ _ (a _ _ e)
  refine lcg S (fun i H => Same H1 H ∧ H D = some (.lst ((xs.take i).filterMap f))) ⟨up (Same.refl _) (Same.refl _), by rw [upd_same]; simp⟩ (fun i H _ p => hHs H p.1) (fun i x H hx p => ?_) (fun H p => ?_)
  · have hm : x ∈ xs := List.mem_of_getElem? hx
    have ht : xs.take (i + 1) = xs.take i ++ [x] := by
      rw [List.take_succ, hx]
      rfl
    refine hb x hm H p.1 _ _ (fun y H'' e z => ⟨_, z _ _ p.2, ?_, ?_, ?_⟩) (fun H'' e z => ⟨p.1.trans z, ?_⟩)
    · have h1 := List.length_filterMap_le f (xs.take i)
      have h2 := List.length_take_le i xs
      rw [sizeLine_eq]
      have h3 : (xs.take i).length ≤ 100000 := by rw [List.length_take]; omega
      omega
    · exact up p.1 z
    · rw [upd_same, ht, List.filterMap_append]
      simp [e]
    · rw [z _ _ p.2, ht, List.filterMap_append]
      simp [e]
  · have := p.2
    rw [List.take_length] at this
    exact hd H p.1 this
theorem x_lc {wi : TI} {g : TG} {tt : TT} {te : TE} {vs : List Nat} {σ : L2.St} {H : Hp} {Q : VK} (h : wi σ H fun J H1 => ∀ D, H1 D = none → ∃ W : Nat → Nat → Hp → Prop, (∃ m, W 0 m (upd H1 D (.lst []))) ∧ ∀ i m H, W i m H →
    (J.stop i H ∧ Q (.ref D) H) ∨ (J.go i H ∧ ∃ Nx : Hp → Prop, (∀ H', Nx H' → ∃ m', m' < m ∧ W (i + 1) m' H') ∧ ∀ x H', J.yld i H x H' → g x (wipe σ vs) H' fun σ2 H2 => wipe σ2 vs = wipe σ vs ∧ tt σ2 H2 fun b H3 =>
      if b = true then te σ2 H3 fun y H4 => ∃ acc, H4 D = some (.lst acc) ∧ acc.length < sizeLine ∧ Nx (upd H4 D (.lst (acc ++ [y]))) else Nx H3)) : tLc wi g tt te vs σ H Q := h
section
variable {K : PySem.W.Frag} {σ : L2.St} {H : Hp} {te : TE} {ta : TA} {R : It → Hp → Prop} {Q : VK} {x : V}
theorem x_iStr (h : te σ H fun v H1 => ∃ z, v = .str z ∧ R (Its z) H1) : iStr te σ H R := h
theorem x_iTup (h : te σ H fun x H1 => ∃ a, x = .ref a ∧ (∃ xs, SqT K H1 a xs) ∧ R (Itt K a) H1) : iTup K te σ H R := h
theorem x_iList (h : te σ H fun x H1 => ∃ a, x = .ref a ∧ (∃ xs, SqL K H1 a xs) ∧ R (Itl K a) H1) : iList K te σ H R := h
theorem x_iRng1 (h : ta σ H fun vs H1 => ∃ j : Int, vs = [.int j] ∧ -(2 ^ 62) ≤ j ∧ j < 2 ^ 62 ∧ R (Itr 0 j.toNat) H1) : iRng1 ta σ H R := h
theorem x_yes {R : Bool → Hp → Prop} (h : R true H) : tYes σ H R := h
theorem x_bm {T : String} {r : V → List V → Hp → VK → Prop} (h : te σ H fun x H1 => tyV K T x H1 ∧ ta σ H1 fun xs H2 => r x xs H2 Q) : tBM K T r te ta σ H Q := h
theorem x_for {wi : TI} {g : TG} {tb : TS} {D : Ends} (h : wi σ H fun J H1 => ∃ W : Nat → Nat → L2.St → Hp → Prop, (∃ m, W 0 m σ H1) ∧ ∀ i m σ H, W i m σ H →
    (J.stop i H ∧ D.nx σ H) ∨ (J.go i H ∧ ∃ N : L2.St → Hp → Prop, (∀ σ' H', N σ' H' → ∃ m', m' < m ∧ W (i + 1) m' σ' H') ∧ ∀ x H', J.yld i H x H' → g x σ H' fun σ2 H2 => tb { D with nx := N, ct := N, bk := D.nx } σ2 H2)) : tFor wi g tb D σ H := h
theorem x_all {p : Addr} {bs : List Bool} {ys : List V} (a : SqL K H p ys) (e : ys = bs.map V.bl) (h : Q (.bl (bs.all id)) H) : rAll K [.ref p] H Q := ⟨p, bs, rfl, e ▸ a, h⟩
end
/-- a for over any source, by an invariant -/
theorem forg {J : It} {xs : List V} {Hs : Hp → Prop} (S : Src J xs Hs) {g : TG} {tb : TS} {D : Ends} {σ : L2.St} {H : Hp} (Pv : Nat → L2.St → Hp → Prop) (h0 : Pv 0 σ H) (hl : ∀ i σ H, i ≤ xs.length → Pv i σ H → Hs H)
    (hs : ∀ i x σ H, xs[i]? = some x → Pv i σ H → g x σ H fun σ2 H2 => tb { D with nx := Pv (i + 1), ct := Pv (i + 1), bk := D.nx } σ2 H2) (hd : ∀ σ H, Pv xs.length σ H → D.nx σ H) :
    ∃ W : Nat → Nat → L2.St → Hp → Prop, (∃ m, W 0 m σ H) ∧ ∀ i m σ H, W i m σ H →
      (J.stop i H ∧ D.nx σ H) ∨ (J.go i H ∧ ∃ N : L2.St → Hp → Prop, (∀ σ' H', N σ' H' → ∃ m', m' < m ∧ W (i + 1) m' σ' H') ∧ ∀ x H', J.yld i H x H' → g x σ H' fun σ2 H2 => tb { D with nx := N, ct := N, bk := D.nx } σ2 H2) := by
  refine ⟨fun i m σ H => m = xs.length - i ∧ i ≤ xs.length ∧ Pv i σ H, ⟨xs.length, by simp, Nat.zero_le _, h0⟩, ?_⟩
  rintro i m σ H ⟨rfl, hi, p⟩
  have q := hl i σ H hi p
  by_cases hlt : i < xs.length
  · refine .inr ⟨S.go i H hlt q, Pv (i + 1), fun σ' H' p' => ⟨xs.length - (i + 1), by omega, rfl, hlt, p'⟩, fun x H' y => ?_⟩
    obtain ⟨e, y2⟩ := S.yld i H x H' q hlt y
    subst e
    exact hs i x σ _ y2 p
  · have e : i = xs.length := by omega
    subst e
    exact .inl ⟨S.stop H q, hd σ H p⟩
/-! ### join of a list of sgV -/
theorem joinL_one (cs : List Nat) : TL.joinL [] (cs.map fun c => [c]) = cs := by
  induction cs with
  | nil => rfl
  | cons c r ih =>
    cases r with
    | nil => rfl
    | cons d r =>
      show [c] ++ ([] ++ TL.joinL [] ((d :: r).map fun c => [c])) = c :: d :: r
      rw [ih]
      rfl
theorem join_sgV (cs : List Nat) : Txt.join "" (cs.map fun c => (⟨#[c]⟩ : Str)) = ⟨cs.toArray⟩ := by
  have h := SX.join_S [] (cs.map fun c => [c])
  rw [joinL_one, List.map_map] at h
  exact h
def rJoin (K : PySem.W.Frag) : V → List V → Hp → VK → Prop := fun x xs H Q => ∃ a p, ∃ ys : List Str, x = .str a ∧ xs = [.ref p] ∧ (SqL K H p (ys.map V.str) ∨ SqT K H p (ys.map V.str)) ∧
  (ys.map (·.length)).sum + ys.length * a.length ≤ 16777216 ∧ Q (.str (Txt.join a ys)) H
theorem pe_joinN {X : Cx} {o e : Expr} {to te : TE} {apos pos : Pos} (ho : PE X o to) (he : PE X e te) (hs : starEach [e] X.env = [(false, eval e X.env)] := by rfl) (hbase : attributeBase o "join" X.env (eval o X.env) = eval o X.env := by rfl) (hline : (apos.endLine == pos.line) = true := by rfl) :
    PE X (.Call (.Attribute o "join" apos) [e] [] pos) (tM1 (rJoin X.K) to te) := pe_join ho he hs hbase hline
theorem x_tM1 {r : V → List V → Hp → VK → Prop} {H : Hp} {Q : VK} {to te : TE} {σ : L2.St} (h : to σ H fun x H1 => (∃ a, x = .str a) ∧ te σ H1 fun y H2 => r x [y] H2 Q) : tM1 r to te σ H Q := h
theorem x_isStr {a : Str} {A : Prop} (h : A) : (∃ b, V.str a = .str b) ∧ A := ⟨⟨a, rfl⟩, h⟩
/-- "".join of a list of sgV that stands in H -/
theorem x_joinS {K : PySem.W.Frag} {H : Hp} {Q : VK} {p : Addr} {cs : List Nat} {xs : List V} (a : SqL K H p xs) (e : xs = cs.map fun c => .str ⟨#[c]⟩) (hz : cs.length ≤ 1000000) (h : Q (.str ⟨cs.toArray⟩) H) :
    rJoin K (.str "") [.ref p] H Q := by
  have hl : ∀ l : List Nat, ((l.map fun c => (⟨#[c]⟩ : Str)).map (·.length)).sum = l.length := by
    intro l
    induction l with
    | nil => rfl
    | cons c r ih =>
      simp only [List.map_cons, List.sum_cons, List.length_cons, ih]
      show 1 + r.length = r.length + 1
      omega
  refine ⟨"", p, cs.map fun c => (⟨#[c]⟩ : Str), rfl, rfl, .inl ?_, ?_, ?_⟩
  · rw [List.map_map]
    rw [e] at a
    exact a
  · rw [hl]
    have : ("" : Str).length = 0 := by decide +kernel
    rw [this]
    omega
  · rw [join_sgV]
    exact h

/-- a block that only adds objects, by places -/
theorem lcI {J : It} {xs : List V} {Hs : Hp → Prop} (S : Src J xs Hs) {g : TG} {tt : TT} {te : TE} {vs : List Nat} {σ : L2.St} {H1 : Hp} {D : Addr} {Qd : Hp → Prop} (hHs : ∀ H', Same H1 H' → Hs H') (hD : H1 D = none) (hz : xs.length ≤ 100000) (f : Nat → Option V)
    (hb : ∀ i x, xs[i]? = some x → ∀ H', Same H1 H' → ∀ (Y : V → Hp → Prop) (N : Hp → Prop), (∀ y H'', f i = some y → Same H' H'' → Y y H'') → (∀ H'', f i = none → Same H' H'' → N H'') →
      g x (wipe σ vs) H' fun σ2 H2 => wipe σ2 vs = wipe σ vs ∧ tt σ2 H2 fun b H3 => if b = true then te σ2 H3 Y else N H3)
    (hd : ∀ H', Same H1 H' → H' D = some (.lst ((List.range xs.length).filterMap f)) → Qd H') :
    ∃ W : Nat → Nat → Hp → Prop, (∃ m, W 0 m (upd H1 D (.lst []))) ∧ ∀ i m H, W i m H →
      (J.stop i H ∧ Qd H) ∨ (J.go i H ∧ ∃ Nx : Hp → Prop, (∀ H', Nx H' → ∃ m', m' < m ∧ W (i + 1) m' H') ∧ ∀ x H', J.yld i H x H' → g x (wipe σ vs) H' fun σ2 H2 => wipe σ2 vs = wipe σ vs ∧ tt σ2 H2 fun b H3 =>
        if b = true then te σ2 H3 fun y H4 => ∃ acc, H4 D = some (.lst acc) ∧ acc.length < sizeLine ∧ Nx (upd H4 D (.lst (acc ++ [y]))) else Nx H3) := by
  have up : ∀ {H H'' : Hp} {o : HO}, Same H1 H → Same H H'' → Same H1 (upd H'' D o) := fun {H H'' o} a b c u e => by
    rw [upd_ne (ne_of_none e hD)]
    exact b _ _ (a _ _ e)
  refine lcg S (fun i H => Same H1 H ∧ H D = some (.lst ((List.range i).filterMap f))) ⟨up (Same.refl _) (Same.refl _), by rw [upd_same]; simp⟩ (fun i H _ p => hHs H p.1) (fun i x H hx p => ?_) (fun H p => hd H p.1 p.2)
  have hi : i < xs.length := (List.getElem?_eq_some_iff.mp hx).1
  refine hb i x hx H p.1 _ _ (fun y H'' e z => ⟨_, z _ _ p.2, ?_, ?_, ?_⟩) (fun H'' e z => ⟨p.1.trans z, ?_⟩)
  · have h1 := List.length_filterMap_le f (List.range i)
    rw [List.length_range] at h1
    rw [sizeLine_eq]
    omega
  · exact up p.1 z
  · rw [upd_same, List.range_succ, List.filterMap_append]
    simp [e]
  · rw [z _ _ p.2, List.range_succ, List.filterMap_append]
    simp [e]
theorem mapI {α : Type} (g : α → V) : ∀ (ds : List α) (f : Nat → Option V), (∀ i d, ds[i]? = some d → f i = some (g d)) → (List.range ds.length).filterMap f = ds.map g := by
  intro ds f h
  have key : ∀ n, n ≤ ds.length → (List.range n).filterMap f = (ds.take n).map g := by
    intro n
    induction n with
    | zero => intro _; rfl
    | succ n ih =>
      intro hn
      have hn' : n < ds.length := by omega
      rw [List.range_succ, List.filterMap_append, ih (by omega), List.take_succ, List.map_append]
      have e : ds[n]? = some ds[n] := List.getElem?_eq_getElem hn'
      rw [e]
      simp [h n _ e]
  rw [key _ (Nat.le_refl _), List.take_length]
theorem lenI {α : Type} (p : α → Bool) : ∀ (ds : List α) (f : Nat → Option V), (∀ i d, ds[i]? = some d → (f i).isSome = p d) → ((List.range ds.length).filterMap f).length = (ds.filter p).length := by
  intro ds f h
  have key : ∀ n, n ≤ ds.length → ((List.range n).filterMap f).length = ((ds.take n).filter p).length := by
    intro n
    induction n with
    | zero => intro _; rfl
    | succ n ih =>
      intro hn
      have hn' : n < ds.length := by omega
      rw [List.range_succ, List.filterMap_append, List.length_append, ih (by omega), List.take_succ, List.filter_append, List.length_append]
      have e : ds[n]? = some ds[n] := List.getElem?_eq_getElem hn'
      rw [e]
      have q := h n _ e
      cases hf : f n with
      | none => rw [hf] at q; simp [hf, ← q]
      | some y => rw [hf] at q; simp [hf, ← q]
  rw [key _ (Nat.le_refl _), List.take_length]
/-- a def with one parameter and a star -/
theorem Tp.okS1 {fa : List He.Fa} {fn : List He.DefD} {ts : List He.Tab} {ex : PySem.W.Frag → Bool} {w : World} {K : PySem.W.Frag} {mg : Str → Option Value} {P : Program} {base : Heap} {k : Nat} {sp : Sp} (T : Tp fa fn ts ex w K mg) (i : Nat) {d : He.DefD} (h : fn[i]? = some d) (hd : d.dfl = []) (hk : d.kwd = []) {N : List Str} {p1 pv : Str} (S : FnScope N [p1, pv] d.scope)
    (h0 : ∀ (kV doc pm : Value) (an : Option Addr) (cdv ct : Value) (a : Value), bindArgs (PySem.W.fnOf d.name d.qual d.params d.body d.scope .none kV doc pm an cdv ct) ⟨[a], []⟩ = (newTuple [] >>= fun t => pure [(p1, a), (pv, t)]))
    (h1 : ∀ (kV doc pm : Value) (an : Option Addr) (cdv ct : Value) (a r : Value) (rs : List Value), bindArgs (PySem.W.fnOf d.name d.qual d.params d.body d.scope .none kV doc pm an cdv ct) ⟨a :: r :: rs, []⟩ = (newTuple (r :: rs) >>= fun t => pure [(p1, a), (pv, t)]))
    (hbody : ∀ (cdv : Value) (A : Around) (outer : List Env) (s : Shared) (H : Hp) (vs : List V) (Q : VK) (E : XK), Room k (A.deeper (envOfC d.qual d.scope s.heap.objs.size (He.fAd K d.at_) cdv)) → sp vs H Q E →
      ∃ t, PSs (cxOf CX0 P w K mg base N d.qual d.scope (He.fAd K d.at_) cdv A outer s H E).nox d.body t ∧ t { nx := fun _ H' => Q .non H', rt := Q } (start N vs) H) :
    FnR P w K mg base CX0 (k + 1) (He.fAd K d.at_) (fun vs H Q E => ∃ v0 rest, vs = v0 :: rest ∧ rest.length ≤ sizeLine ∧ ∀ p, H p = none → sp [v0, .ref p] (upd H p (.tup rest)) Q E) := by
  obtain ⟨fd, F⟩ := T.c.def_ i h
  have e1 : d.dvs K = [] := by unfold He.DefD.dvs; rw [hd]; rfl
  have e2 : d.kws K = [] := by unfold He.DefD.kws; rw [hk]; rfl
  rw [e1, e2] at F
  obtain ⟨oc, od, dV, kV, doc, pm, an, cdv, ct, osl, rfl, lk, hcd, hD, hK⟩ := F.ex
  rcases hD with ⟨_, rfl⟩ | ⟨e, _⟩
  · refine FnR.imp (fn_star (ps := [p1]) lk hcd S cxUp_none (bind_star1 (B := fun us => bindArgs (PySem.W.fnOf d.name d.qual d.params d.body d.scope .none kV doc pm an cdv ct) ⟨us, []⟩) (h0 kV doc pm an cdv ct) (h1 kV doc pm an cdv ct)) fun A outer s H vs Q E hr hsp => let ⟨t, a, b⟩ := hbody cdv A outer s H vs Q E hr hsp; ⟨t, a.nox, b⟩) fun vs H Q E ⟨v0, rest, ev, hz, hq⟩ => ⟨[v0], rest, ev, rfl, hz, hq⟩
  · exact absurd rfl e
section
variable {K : PySem.W.Frag} {σ : L2.St} {H : Hp} {te : TE} {t : TA} {Q : VK} {x : V}
theorem x_star {Q : List V → Hp → Prop} (h : te σ H fun x H1 => ∃ p xs, x = V.ref p ∧ (SqT K H1 p xs ∨ SqL K H1 p xs) ∧ t σ H1 fun ys H2 => Q (xs ++ ys) H2) : tStar K te t σ H Q := h
theorem x_in {neg : Bool} {p : Addr} {xs : List V} (a : SqL K H p xs ∨ SqT K H p xs) (e : flatV x = true) (f : xs.all flatV = true) (h : Q (.bl (if neg then !inV x xs else inV x xs)) H) : rIn K neg x (.ref p) H Q := ⟨p, xs, rfl, a, e, f, h⟩
theorem x_inY {p : Addr} {xs : List V} (a : SqL K H p xs ∨ SqT K H p xs) (e : flatV x = true) (f : xs.all flatV = true) (h : Q (.bl (inV x xs)) H) : rIn K false x (.ref p) H Q := ⟨p, xs, rfl, a, e, f, h⟩
theorem x_inN {p : Addr} {xs : List V} (a : SqL K H p xs ∨ SqT K H p xs) (e : flatV x = true) (f : xs.all flatV = true) (h : Q (.bl (!inV x xs)) H) : rIn K true x (.ref p) H Q := ⟨p, xs, rfl, a, e, f, h⟩
theorem x_iEnumT {ta : TA} {R : It → Hp → Prop} (h : ta σ H fun vs H1 => ∃ a xs, vs = [.ref a] ∧ SqT K H1 a xs ∧ R (ItT K a) H1) : iEnumT K ta σ H R := h
theorem x_gTup {n : Nat} {tg : TGs} {a : Addr} {xs : List V} {Q : L2.St → Hp → Prop} (h : SqT K H a xs) (hl : xs.length = n) (k : tg xs σ H Q) : gTup K n tg (.ref a) σ H Q := ⟨a, xs, rfl, h, hl, k⟩
theorem x_gCons {g : TG} {u : TGs} {v : V} {vs : List V} {Q : L2.St → Hp → Prop} (h : g v σ H fun σ' H' => u vs σ' H' Q) : gCons g u (v :: vs) σ H Q := ⟨v, vs, rfl, h⟩
theorem x_gNil {Q : L2.St → Hp → Prop} (h : Q σ H) : gNil [] σ H Q := ⟨rfl, h⟩
end
section
variable {K : PySem.W.Frag} {σ : L2.St} {H : Hp} {te : TE} {Q : VK} {x : V}
theorem x_sl {r : V → Option Int → Option Int → Hp → VK → Prop} {tl th : TO} (h : te σ H fun x H1 => tl σ H1 fun l H2 => th σ H2 fun u H3 => r x l u H3 Q) : tSl r te tl th σ H Q := h
theorem x_part {R : Option Int → Hp → Prop} (h : te σ H fun x H1 => ∃ i, x = .int i ∧ R (some i) H1) : tPart te σ H R := h
theorem x_noPart {R : Option Int → Hp → Prop} (h : R none H) : tNoPart σ H R := h
theorem x_exI {n : Int} {R : Int → Prop} (h : R n) : ∃ i, V.int n = .int i ∧ R i := ⟨n, rfl, h⟩
theorem x_slTake {a : Addr} {xs : List V} {n : Nat} (h : SqT K H a xs) (hn : n ≤ xs.length) (k : ∀ p H', Same H H' → SqT K H' p (xs.take n) → Q (.ref p) H') : rSlA K (.ref a) none (some (n : Int)) H Q := by
  have e1 : HT.sIx xs.length 0 none = 0 := rfl
  have e2 : HT.sIx xs.length xs.length (some (n : Int)) = n := by
    show (if (n : Int) < 0 then ((n : Int) + xs.length).toNat else min (n : Int).toNat xs.length) = n
    rw [if_neg (by omega)]
    omega
  refine ⟨a, xs, rfl, h, fun ⟨_, z⟩ => ?_, fun _ p hp => ?_⟩
  · rw [e2] at z
    have : xs.take n = xs := by rw [z]; exact List.take_length
    exact k a H (Same.refl _) (by rw [this]; exact h)
  · have e3 : cutV xs none (some (n : Int)) = xs.take n := by
      unfold cutV
      rw [e1, e2]
      simp
    rw [e3]
    refine k p _ (fun b o e => by rw [upd_ne (ne_of_none e hp)]; exact e) (SqT.of upd_same)
end
theorem inV_str (w : Str) (ws : List Str) : inV (.str w) (ws.map V.str) = decide (w ∈ ws) := by
  unfold inV
  induction ws with
  | nil => simp
  | cons a r ih =>
    rw [List.map_cons, List.any_cons, ih]
    have e : eqV (.str a) (.str w) = decide (a = w) := by first | rfl | (simp [eqV])
    rw [e]
    by_cases h : a = w
    · subst h; simp
    · have h2 : ¬ w = a := fun z => h z.symm
      simp [h, h2]
end Ob
namespace Ob
open PySem PySem.Spec PyProof.Rows L2 StX
/-! ### the rules with the written part told by its name -/
section
variable {X : Cx} {K : PySem.W.Frag}
theorem kix_tup (e : X.K = K) : IxR X (rIxT K) := by subst e; exact ix_tup
theorem kix_list (e : X.K = K) : IxR X (rIxL K) := by subst e; exact ix_list
theorem kop_in (e : X.K = K) : OpR X (compareOp .In) (rIn K false) := by subst e; exact op_in_seq
theorem kop_notIn (e : X.K = K) : OpR X (compareOp .NotIn) (rIn K true) := by subst e; exact op_notIn_seq
theorem kcr_len (e : X.K = K) : CallR X (.builtin "len") (rLenN K) := by subst e; exact cr_len
theorem kcall_isi (e : X.K = K) : CallR X (.builtin "isinstance") (rIsi K) := by subst e; exact call_isi
theorem kcall_isiT (e : X.K = K) : CallR X (.builtin "isinstance") (rIsiT K) := by subst e; exact call_isiT
theorem kop_eqD (e : X.K = K) (hu : X.A.units + 64 < cLine) : OpR X (compareOp .Eq) (rEqD K) := by subst e; exact op_eqD hu
theorem kop_neD (e : X.K = K) (hu : X.A.units + 64 < cLine) : OpR X (compareOp .NotEq) (rNeD K) := by subst e; exact op_neD hu
theorem ksl_list (e : X.K = K) : SlR X (rSlL K) := by subst e; exact sl_list
theorem kpe_fld {e : Expr} {f : Str} {pos : Pos} {ta : TE} (ek : X.K = K) (he : PE X e ta) (hb : attributeBase e f X.env (eval e X.env) = eval e X.env) : PE X (.Attribute e f pos) (tFld K ta f) := by subst ek; exact pe_fld he hb
theorem kpa_star {e : Expr} {es : List Expr} {p : Pos} {te : TE} {t : TA} (ek : X.K = K) (he : PE X e te) (hr : PA X es t) (hs : starEach (.Starred e p :: es) X.env = (true, eval e X.env) :: starEach es X.env := by rfl) : PA X (.Starred e p :: es) (tStar K te t) := by subst ek; exact pa_star he hr hs
theorem kpg_tup {es : List Expr} {k : Nat} {t : TGs} {n : Nat} {pos : Pos} (ek : X.K = K) (hc : X.calm = true) (h : PGs X es t) (hn : (assignEach es X.env).length = n := by rfl) (hst : (assignEach es X.env).findIdx? (·.1) = none := by rfl) : PG X (.Tuple es k pos) (gTup K n t) := by subst ek; exact pg_tup hc h hn hst
theorem kpi_list {tg l : Expr} {tl : TE} (ek : X.K = K) (hl : PE X l tl) : PI X tg l (iList K tl) := by subst ek; exact pi_list hl
theorem kpi_tup {tg l : Expr} {tl : TE} (ek : X.K = K) (hl : PE X l tl) : PI X tg l (iTup K tl) := by subst ek; exact pi_tup hl
theorem kpi_enumT {e : Expr} {ta : TA} {p pos tpos : Pos} {elts : List Expr} {kk : Nat} (ek : X.K = K) (hg : Gl X "enumerate") (hm : X.mg "enumerate" = none) (ha : PA X [e] ta) (hs : starEach [e] X.env = [(false, eval e X.env)] := by rfl) :
    PI X (.Tuple elts kk tpos) (.Call (.Name "enumerate" p) [e] [] pos) (iEnumT K ta) := by subst ek; exact pi_enumT hg hm ha hs
theorem kpe_join {o e : Expr} {to te : TE} {apos pos : Pos} (ek : X.K = K) (ho : PE X o to) (he : PE X e te) (hs : starEach [e] X.env = [(false, eval e X.env)] := by rfl) (hbase : attributeBase o "join" X.env (eval o X.env) = eval o X.env := by rfl) (hline : (apos.endLine == pos.line) = true := by rfl) :
    PE X (.Call (.Attribute o "join" apos) [e] [] pos) (tM1 (rJoin K) to te) := by subst ek; exact pe_joinN ho he hs hbase hline
def rTupOf (K : PySem.W.Frag) : List V → Hp → VK → Prop := fun xs H Q => ∃ p ys, xs = [.ref p] ∧ ((SqL K H p ys ∧ ∀ l, H l = none → Q (.ref l) (upd H l (.tup ys))) ∨ (SqT K H p ys ∧ Q (.ref p) H))
def rLstOf (K : PySem.W.Frag) : List V → Hp → VK → Prop := fun xs H Q => ∃ p ys, xs = [.ref p] ∧ (SqL K H p ys ∨ SqT K H p ys) ∧ ∀ l, H l = none → Q (.ref l) (upd H l (.lst ys))
theorem kcall_tuple (e : X.K = K) : CallR X (.type "tuple") (rTupOf K) := by subst e; exact call_tuple_of
theorem kcall_list (e : X.K = K) : CallR X (.type "list") (rLstOf K) := by subst e; exact call_list_of
theorem kcr_all (e : X.K = K) (hc : X.calm = true) : CallR X (.builtin "all") (rAll K) := by subst e; exact cr_all hc
theorem kcr_any (e : X.K = K) (hc : X.calm = true) : CallR X (.builtin "any") (rAny K) := by subst e; exact cr_any hc
theorem kcr_sum (e : X.K = K) (hc : X.calm = true) : CallR X (.builtin "sum") (rSum K) := by subst e; exact cr_sum hc
theorem kop_catA (e : X.K = K) : OpR X (binaryOp .Add) (rCatA K) := by subst e; exact op_catA
theorem kop_repT (e : X.K = K) : OpR X (binaryOp .Mult) (rRepT K) := by subst e; exact op_repT
theorem ksl_tupA (e : X.K = K) : SlR X (rSlA K) := by subst e; exact sl_tupA
theorem kix_kdict {w : World} (e : X.K = K) (ew : X.w = w) : IxR X (rIxD K w) := by subst e; subst ew; exact ix_kdict
theorem kpg_star {e1 e2 : Expr} {k : Nat} {pos p2 : Pos} {g1 g2 : TG} (ek : X.K = K) (hc : X.calm = true) (h1 : PG X e1 g1) (h2 : PG X e2 g2)
    (hn : (assignEach [e1, .Starred e2 p2] X.env).length = 2 := by rfl) (hst : (assignEach [e1, .Starred e2 p2] X.env).findIdx? (·.1) = some 1 := by rfl)
    (hm : (assignEach [e1, .Starred e2 p2] X.env).map (·.2) = [assign e1 X.env, assign e2 X.env] := by rfl) : PG X (.Tuple [e1, .Starred e2 p2] k pos) (gStar K g1 g2) := by subst ek; exact pg_star hc h1 h2 hn hst hm
end
end Ob
/-! Ob: a promise where no list is being shown above (for repr); the law's end for such a promise -/
namespace Ob
open PySem PySem.Spec PyProof.Rows L2 StX

/-- room, and nothing is being shown by repr above -/
structure RoomG (k : Nat) (A : Around) : Prop where
  r : Room k A
  g : A.guards = some []
theorem RoomG.mono {j k : Nat} {A : Around} (h : RoomG k A) (e : j ≤ k) : RoomG j A := ⟨h.r.mono e, h.g⟩
theorem RoomG.deeper {k : Nat} {A : Around} (h : RoomG (k + 1) A) (env : Env) : RoomG k (A.deeper env) := ⟨h.r.deeper env, h.g⟩
/-- a def's promise there -/
def FnG (P : Program) (w : World) (K : PySem.W.Frag) (mg : Str → Option Value) (base : Heap) (CX : CXT) (k : Nat) (f : Addr) (sp : Sp) : Prop :=
  ∀ (A : Around) (outer : List Env) (s : Shared) (H : Hp) (us : List Value) (vs : List V) (Q : VK) (E : XK), RoomG k A → Env0 P w K mg base A outer s H → Vals vs us → sp vs H Q E →
    codeAny (model P w) A (.call (.ref f) ⟨us, []⟩) (CR CX outer P w H s Q E) s
section
variable {P : Program} {w : World} {K : PySem.W.Frag} {mg : Str → Option Value} {base : Heap} {CX : CXT} {j k : Nat} {f : Addr} {sp sp' : Sp}
theorem FnG.of {k : Nat} (F : FnR P w K mg base CX k f sp) : FnG P w K mg base CX k f sp := fun A outer s H us vs Q E hr => F A outer s H us vs Q E hr.r
theorem FnG.mono (F : FnG P w K mg base CX j f sp) (h : j ≤ k) : FnG P w K mg base CX k f sp := fun A outer s H us vs Q E hr => F A outer s H us vs Q E (hr.mono h)
theorem fnG_of {name qual : Str} {params : Arguments} {body : List Stmt} {scope : Scope} {dV kV doc pm cdv ct oc : Value} {an od : Option Addr} {osl : Array (Option Value)} {N ps : List Str}
    (lk : K.lookup f = some ⟨oc, od, .func (PySem.W.fnOf name qual params body scope dV kV doc pm an cdv ct), osl⟩) (hcd : PySem.W.codeIn K cdv qual = true) (S : FnScope N ps scope)
    (hb : ∀ us : List Value, us.length = ps.length → bindArgs (PySem.W.fnOf name qual params body scope dV kV doc pm an cdv ct) ⟨us, []⟩ = pure (ps.zip us))
    (len : ∀ vs H Q E, sp vs H Q E → vs.length = ps.length)
    (hbody : ∀ (A : Around) (outer : List Env) (s : Shared) (H : Hp) (vs : List V) (Q : VK) (E : XK), RoomG k (A.deeper (envOfC qual scope s.heap.objs.size f cdv)) → sp vs H Q E →
      ∃ t, PSs (cxOf CX P w K mg base N qual scope f cdv A outer s H E) body t ∧ t { nx := fun _ H' => Q .non H', rt := Q } (start N vs) H) :
    FnG P w K mg base CX (k + 1) f sp := by
  intro A outer s H us vs Q E hr e0 r hsp
  have hl : us.length = ps.length := by rw [← r.length]; exact len _ _ _ _ hsp
  have kp : ∀ b o, base.get? b = some o → s.heap.get? b = some o := fun b o e => (e0.bs b o e).1
  have KX : K.In s.heap := e0.mod.kin.keeps kp
  have places : ∀ y ∈ ps.zip us, scope.names.lookup y.1 = some .local ∨ (scope.names.lookup y.1 = some .cell ∧ ((cellsFrom (s.heap.objs.size + 1) scope.names []).lookup y.1).isSome = true) := by
    rintro ⟨n, v⟩ hy
    exact (S.par n (List.of_mem_zip hy).1).imp id fun q => ⟨q, PySem.W.cellsFrom_some _ _ _ (.inl q)⟩
  refine codeAny_call_function hr.r.depth (KX _ _ lk) rfl S.co S.gen rfl (PySem.W.codeRec_of KX hcd) (BindsTo.of_eq (hb us hl) _ _ _ _ ?_)
  refine wpAny_newFunctionEnv_cells S.kind places fun env he s1 x => ?_
  subst he
  refine ⟨(e0.mod.nolimit.keeps kp).keeps x.toInCall.keep, codeAny_func ?_⟩
  obtain ⟨t, ht, hq⟩ := hbody A outer s H vs Q E (hr.deeper _) hsp
  have I : Inv (cxOf CX P w K mg base N qual scope f cdv A outer s H E) [] (start N vs) H s1 := inv_start S hr.r.hd e0 (len _ _ _ _ hsp) r x
  refine wpAny_mono (ht.run [] s1 (start N vs) H _ I hq) (fun fl s' hs => ?_) fun e s' hs => hs
  cases fl with
  | ret u =>
    obtain ⟨v, σ', H', J, rv, q⟩ := hs
    exact ⟨v, H', J.os, J.bare, J.base, J.hok, rv, q⟩
  | next =>
    obtain ⟨σ', H', J, q⟩ := hs
    exact ⟨.non, H', J.os, J.bare, J.base, J.hok, rfl, q⟩
  | brk =>
    obtain ⟨_, _, _, q⟩ := hs
    exact False.elim q
  | cont =>
    obtain ⟨_, _, _, q⟩ := hs
    exact False.elim q
end
section
variable {fa : List He.Fa} {fn : List He.DefD} {ts : List He.Tab} {ex : PySem.W.Frag → Bool} {w : World} {K : PySem.W.Frag} {mg : Str → Option Value}
/-- a def of the text, without defaults; nothing raised -/
theorem Tp.okG {P : Program} {base : Heap} {k : Nat} {sp : Sp} (T : Tp fa fn ts ex w K mg) (i : Nat) {d : He.DefD} (h : fn[i]? = some d) (hd : d.dfl = []) (hk : d.kwd = []) {N ps : List Str} (S : FnScope N ps d.scope)
    (hb : ∀ (kV doc pm : Value) (an : Option Addr) (cdv ct : Value) (us : List Value), us.length = ps.length → bindArgs (PySem.W.fnOf d.name d.qual d.params d.body d.scope .none kV doc pm an cdv ct) ⟨us, []⟩ = pure (ps.zip us))
    (len : ∀ vs H Q E, sp vs H Q E → vs.length = ps.length)
    (hbody : ∀ (cdv : Value) (A : Around) (outer : List Env) (s : Shared) (H : Hp) (vs : List V) (Q : VK) (E : XK), RoomG k (A.deeper (envOfC d.qual d.scope s.heap.objs.size (He.fAd K d.at_) cdv)) → sp vs H Q E →
      ∃ t, PSs (cxOf CX0 P w K mg base N d.qual d.scope (He.fAd K d.at_) cdv A outer s H E).nox d.body t ∧ t { nx := fun _ H' => Q .non H', rt := Q } (start N vs) H) :
    FnG P w K mg base CX0 (k + 1) (He.fAd K d.at_) sp := by
  obtain ⟨fd, F⟩ := T.c.def_ i h
  have e1 : d.dvs K = [] := by unfold He.DefD.dvs; rw [hd]; rfl
  have e2 : d.kws K = [] := by unfold He.DefD.kws; rw [hk]; rfl
  rw [e1, e2] at F
  obtain ⟨oc, od, dV, kV, doc, pm, an, cdv, ct, osl, rfl, lk, hcd, hD, hK⟩ := F.ex
  rcases hD with ⟨_, rfl⟩ | ⟨e, _⟩
  · refine fnG_of lk hcd S (fun us hl => hb kV doc pm an cdv ct us hl) len fun A outer s H vs Q E hr hsp => ?_
    obtain ⟨t, a, b⟩ := hbody cdv A outer s H vs Q E hr hsp
    exact ⟨t, a.nox, b⟩
  · exact absurd rfl e
end
/-- a call by the global's name, there -/
theorem pcG {X : Cx} {CX : CXT} {k : Nat} {x : Str} {sp : Sp} {E : XK} {e : Expr} {es : List Expr} {t : TA} {p pos : Pos} (F : FnG X.prog X.w X.K X.mg X.base CX k (He.ga X.K x) sp) (hr : RoomG k X.A) (hm : X.mg x = some (.ref (He.ga X.K x)))
    (hk : PySem.W.keepIn X.K (.ref (He.ga X.K x)) = true) (hx : Passes CX X E) (ha : PA X (e :: es) t) (hg : Gl X x := by rfl) (hd : (x == ("__debug__" : Str)) = false := by decide)
    (he : starEach (e :: es) X.env = (false, eval e X.env) :: starEach es X.env := by rfl) (hpl : (backTo pos (starEach es X.env)).any (·.1) = false := by rfl) :
    PE X (.Call (.Name x p) (e :: es) [] pos) (tCl sp E t) := by
  refine ⟨fun pins s σ H Q I h => ?_⟩
  refine wpAny_Call_Name_kw (ld_glob I hg hm ?_ hd)
  refine PySem.W.callWith_K (h₀ := X.base) I.ok.mod.kin hk (thn (ha.run pos pins s σ H _ I h) fun us s1 ⟨vs, H1, I1, r, q⟩ => ⟨I1.kIn, wpAny_call ?_⟩) he hpl
  refine codeAny_mono (F X.A X.stack s1 H1 us vs Q E hr I1.env0 r q) fun r s' hq => ?_
  cases r with
  | error e => exact hx pins σ H1 s1 e s' I1 hq
  | ok fl =>
    cases fl with
    | ret u => exact I1.after hq
    | next => exact False.elim hq
    | brk => exact False.elim hq
    | cont => exact False.elim hq
/-! ### repr -/
def Shows (d : PyData) : Prop := d.showable = true ∧ d.hasDict = false ∧ d.depth ≤ 60 ∧ d.shown.length ≤ sizeLine
def rRepr (K : PySem.W.Frag) : List V → Hp → VK → Prop := fun xs H Q => ∃ a d, xs = [.ref a] ∧ Dp K H (.ref a) d ∧ Shows d ∧ Q (.str d.shown) H
theorem call_reprG {X : Cx} {k : Nat} (hr : RoomG k X.A) : CallR X (.builtin "repr") (rRepr X.K) := by
  intro pins s σ H xs us Q I r h
  obtain ⟨a, d, rfl, hd, ⟨h1, h2, h3, h4⟩, q⟩ := h
  obtain ⟨u, rfl, rx⟩ := vals1 r
  obtain ⟨as, rd⟩ := Dp.reads I d _ _ hd rx
  have e : u = .ref a := rx
  subst e
  refine repr_of_reads' rd h1 (fun z => by rw [h2] at z; cases z) hr.g (by have := hr.r.units; omega) (fun _ _ e => e) (fun h' u tk hk => ?_) h4
  exact ⟨.str d.shown, H, I.kept (t' := tk) hk, ⟨u, rfl⟩, q⟩
end Ob
namespace Ob
open PySem PySem.Spec PyProof.Rows L2
/-! ### the law's end -/
theorem law_callG {P : Program} {w : World} {K : PySem.W.Frag} {mg mb : Str → Option Value} {k : Nat} {fa a : Addr} {sp : Sp} {s₁ : Shared} {vs : List Value} {ns : List Int}
    (KX : K.In s₁.heap) (hns : s₁.heap.Ns mainGlobals mg) (hb : s₁.heap.Ns builtinsNs mb) (hbb : ∀ x : Str, x ≠ "__name__" → mb x = bootBuiltins x) (hlim : s₁.heap.NoLimit) (hg : s₁.gens = #[])
    (ha : s₁.heap.get? a = some { cls := .type "list", data := .seq vs.toArray }) (hi : IntsAre vs ns) (hl : ns.length ≤ sizeLine) (hr : RoomG k callerA)
    (F : ∀ base : Heap, K.In base → base.Ns mainGlobals mg → FnG P w K mg base CX0 k fa sp)
    (hsp : ∀ H : Hp, Only H → SqL K H a (ns.map V.int) → sp [.ref a] H (fun v _ => v = .bl true) fun _ _ _ => False) :
    codeAny (model P w) callerA (.call (.ref fa) ⟨[.ref a], []⟩) (fun r s' => r = .ok (.ret (.bool true)) ∧ OldK s₁.heap s'.heap ∧ s'.os = s₁.os ∧ AllBare s'.gens) s₁ := by
  have rv := vals_ints hi
  have main : ∀ H : Hp, Only H → SqL K H a (ns.map V.int) → HOk P w H s₁.heap → (∀ b, H b ≠ none → b = a) → (H a ≠ none → K.lookup a = none) →
      codeAny (model P w) callerA (.call (.ref fa) ⟨[.ref a], []⟩) (fun r s' => r = .ok (.ret (.bool true)) ∧ OldK s₁.heap s'.heap ∧ s'.os = s₁.os ∧ AllBare s'.gens) s₁ := by
    intro H hO hS hok hA hK
    have other : ∀ {b : Addr}, (b = a → False) → H b = none := fun {b} n => by
      cases q : H b with
      | none => rfl
      | some u => exact (n (hA b (by rw [q]; simp))).elim
    have noDict : ∀ {b : Addr} {o : Obj} {es : Array DictEntry} {ep : Nat}, s₁.heap.get? b = some o → o.data = .dict es ep → H b = none := fun {b o es ep} e d => other fun z => by
      subst z
      rw [ha] at e
      cases e
      cases (show Data.seq vs.toArray _ = Data.dict es ep from d)
    have nsK : ∀ {b : Addr} {m : Str → Option Value}, s₁.heap.Ns b m → (hidT s₁.heap H).Ns b m := fun {b m} ⟨o, es, ep, e, d, r⟩ => ⟨o, es, ep, hidT_get e (noDict e d), d, r⟩
    have inK : K.In (hidT s₁.heap H) := fun b o e => hidT_get (KX b o e) (by
      by_cases n : H b = none
      · exact n
      · have z := hA b n
        subst z
        rw [hK n] at e
        cases e)
    have hM : Mod K mg (hidT s₁.heap H) := ⟨inK, nsK hns, ⟨mb, nsK hb, hbb⟩, let ⟨mc, h1, h2⟩ := hlim; ⟨mc, nsK h1, h2⟩⟩
    have e0 : Env0 P w K mg (hidT s₁.heap H) callerA [] s₁ H := ⟨rfl, hM, fun b o e => of_hidT e, Nat.le_of_eq (hidT_size _ _), trivial, fun b hb => absurd (show b ∈ ([] : List Addr) from hb) (by simp), hok, .of_eq hg⟩
    refine codeAny_mono (F _ inK (nsK hns) callerA [] s₁ H [.ref a] [.ref a] _ _ hr e0 (.cons rfl .nil) (hsp H hO hS)) fun r s' h => ?_
    cases r with
    | error e => exact (show False from h).elim
    | ok fl =>
      cases fl with
      | next => exact False.elim h
      | brk => exact False.elim h
      | cont => exact False.elim h
      | ret u =>
        obtain ⟨v, H', os, bare, un, hok', r', q⟩ := h
        obtain rfl : v = .bl true := q
        obtain rfl : u = Value.bool true := r'
        refine ⟨rfl, OldK.of_keep fun b o e => ?_, os, bare⟩
        rcases hO b with q | ⟨ob, xs, q⟩
        · exact un.keep b o e q (by intro z; exact absurd (show b ∈ ([] : List Addr) from z) (by simp)) (by simp)
        · obtain ⟨e1, _⟩ := hok b _ q
          obtain ⟨e2, _⟩ := hok' b _ (un.frzs b ob _ q)
          rw [e] at e1
          cases e1
          exact e2
  cases hk : K.lookup a with
  | some o =>
    have e := KX a o hk
    rw [ha] at e
    cases e
    exact main (fun _ => none) (fun _ => .inl rfl) (.inr ⟨_, vs.toArray, _, hk, rfl, rfl, rfl, by rw [List.size_toArray, hi.length]; exact hl, by simpa using rv⟩) (fun b u z => by cases (show (none : Option HO) = some u from z)) (fun b z => absurd rfl z) fun z => absurd rfl z
  | none =>
    refine main (fun b => if b = a then some (.frz { cls := .type "list", data := .seq vs.toArray } (.lst (ns.map V.int))) else none) (fun b => ?_) (.inl (.inr ⟨{ cls := .type "list", data := .seq vs.toArray }, if_pos rfl⟩)) (fun b u z => ?_) (fun b z => ?_) fun _ => hk
    · by_cases hb : b = a
      · exact .inr ⟨_, _, if_pos hb⟩
      · exact .inl (if_neg hb)
    · by_cases hb : b = a
      · cases (if_pos hb).symm.trans z
        subst hb
        exact ⟨ha, by rw [List.length_map]; exact hl, vs, _, rv, ha⟩
      · cases (if_neg hb).symm.trans z
    · by_cases hb : b = a
      · exact hb
      · exact absurd (if_neg hb) z
theorem roomG_caller {k : Nat} (h : Room k callerA) : RoomG k callerA := ⟨h, rfl⟩
theorem walkG {l : PySem.W.OpenLaw} {n k : Nat} {q : Program} {loose : List Str} {XP : (Str → Option Value) → Heap → Prop} {YP : World → Heap → Prop} {d : DefRec}
    (hn : l.most = some n) (hn2 : n ≤ sizeLine) (hdf : d.params.defaults = []) (hr : Room k callerA)
    (F : ∀ (w : World) (mg : Str → Option Value) (fa : Addr) (h : Heap), YP w h → h.Ns mainGlobals mg → mg d.name = some (.ref fa) →
      ∃ (K : PySem.W.Frag) (sp : Sp), K.In h ∧ (∀ (H : Hp) (a : Addr) (ns : List Int), ns.length ≤ n → Only H → SqL K H a (ns.map V.int) → sp [.ref a] H (fun v _ => v = .bl true) fun _ _ _ => False) ∧
        ∀ base : Heap, K.In base → base.Ns mainGlobals mg → FnG l.prog w K mg base CX0 k fa sp) :
    PySem.W.WalkO q loose XP YP l.row.toRowW d [] (fun f vs => PySem.call f vs) := by
  refine Att.attach_call hn hdf fun w s₀ s₁ mg mb fa o pm cd doc a vs ns G Y ho hd hcd hmg hobj hints hlen hg => ?_
  obtain ⟨K, sp, KX, hsp, hF⟩ := F w mg fa _ Y G.T.g hmg
  exact law_callG KX G.T.g G.T.b G.T.builtins G.T.nolimit hg hobj hints (Nat.le_trans hlen hn2) (roomG_caller hr) hF fun H hO hS => hsp H a ns hlen hO hS
end Ob
/-! Mi: a small machine over values with trees for tuples and a list for a heap; its relation to the abstract heap -/
namespace Mi
open PySem PySem.Spec PyProof.Rows L2 Ob StX

/-- values: tl, td: a list, a dict that is never changed; rol: the script; ctup: a tuple of the top -/
inductive MV where
  | non | bl (b : Bool) | int (i : Int) | str (x : Str) | tup (xs : List MV) | ctup (xs : List MV) | tl (xs : List MV) | rol (xs : List MV) | td (ks : List Key) (xs : List MV) | ref (n : Nat) | raw (v : V) | exc (a : Addr) (d : Option Addr) (f : Str) (x : MV)
inductive MO where
  | lst (xs : List MV) | dK (kvs : List (Key × MV)) | dT (kvs : List (List Key × MV)) | ins (c : Str) (fs : List (Str × MV))
inductive ECl where
  | own (c : Str) | blt (n : String)
structure Exn where
  cl : ECl
  val : Option (Str × MV)
abbrev Mh := List MO
inductive Rs (α : Type) where
  | ok (a : α) (h : Mh) | ex (e : Exn) (h : Mh)
abbrev M (α : Type) := Mh → Option (Rs α)
abbrev Sg := List (Option MV)
def bd {α β : Type} (m : M α) (f : α → M β) : M β := fun h => match m h with
  | some (.ok a h') => f a h'
  | some (.ex e h') => some (.ex e h')
  | none => none
def pu {α : Type} (a : α) : M α := fun h => some (.ok a h)

/-! ### the relation -/
/-- where the machine's objects stand; lists that are being made -/
structure Ph where
  a : List Addr
  b : List Addr
def Ph.push (φ : Ph) (p : Addr) : Ph := ⟨φ.a ++ [p], φ.b⟩
def Ph.ban (φ : Ph) (p : Addr) : Ph := ⟨φ.a, p :: φ.b⟩
structure Ni (φ : Ph) (p : Addr) : Prop where
  na : p ∉ φ.a
  nb : p ∉ φ.b
/-- a list that the machine does not change -/
def SqI (K : PySem.W.Frag) (φ : Ph) (H : Hp) (a : Addr) (xs : List V) : Prop :=
  (Rd H a (.lst xs) ∧ Ni φ a) ∨ ∃ (o : Obj) (its : Array Value) (n : Nat), K.lookup a = some o ∧ o.cls = .type "list" ∧ o.dict = none ∧ o.data = .seq its n ∧ its.size ≤ sizeLine ∧ Vals xs its.toList
theorem SqI.l {K : PySem.W.Frag} {φ : Ph} {H : Hp} {a : Addr} {xs : List V} (h : SqI K φ H a xs) : SqL K H a xs := h.imp (·.1) id
mutual
def Rv (K : PySem.W.Frag) (φ : Ph) (H : Hp) (v : V) : MV → Prop
  | .non => v = .non
  | .bl b => v = .bl b
  | .int i => v = .int i
  | .str x => v = .str x
  | .tup xs => ∃ a vs, v = .ref a ∧ H a = some (.tup vs) ∧ Rvs K φ H vs xs
  | .ctup xs => ∃ a vs, v = .ref a ∧ SqT K H a vs ∧ Rvs K φ H vs xs
  | .tl xs => ∃ a vs, v = .ref a ∧ H a = some (.lst vs) ∧ Ni φ a ∧ Rvs K φ H vs xs
  | .rol xs => ∃ a vs, v = .ref a ∧ SqI K φ H a vs ∧ Rvs K φ H vs xs
  | .td ks xs => ∃ a vs, v = .ref a ∧ H a = some (.dK (ks.zip vs)) ∧ Ni φ a ∧ ks.length = vs.length ∧ Rvs K φ H vs xs
  | .ref n => ∃ a, v = .ref a ∧ φ.a[n]? = some a
  | .raw u => v = u
  | .exc a d f x => v = .ref a ∧ (f = Str.empty ∨ ∃ dx u, d = some dx ∧ H dx = some (.xd [(f, u)]) ∧ Rv K φ H u x)
def Rvs (K : PySem.W.Frag) (φ : Ph) (H : Hp) (vs : List V) : List MV → Prop
  | [] => vs = []
  | x :: xs => ∃ v r, vs = v :: r ∧ Rv K φ H v x ∧ Rvs K φ H r xs
end
section
variable {K : PySem.W.Frag} {φ : Ph} {H : Hp}
theorem rvs_nil : Rvs K φ H [] [] := by unfold Rvs; rfl
theorem rvs_cons {v : V} {vs : List V} {x : MV} {xs : List MV} (a : Rv K φ H v x) (b : Rvs K φ H vs xs) : Rvs K φ H (v :: vs) (x :: xs) := by unfold Rvs; exact ⟨v, vs, rfl, a, b⟩
theorem rvs_inv {v : V} {vs : List V} {x : MV} {xs : List MV} (h : Rvs K φ H (v :: vs) (x :: xs)) : Rv K φ H v x ∧ Rvs K φ H vs xs := by
  unfold Rvs at h
  obtain ⟨_, _, e, a, b⟩ := h
  cases e
  exact ⟨a, b⟩
theorem rvs_invr {vs : List V} {x : MV} {xs : List MV} (h : Rvs K φ H vs (x :: xs)) : ∃ v r, vs = v :: r ∧ Rv K φ H v x ∧ Rvs K φ H r xs := by
  unfold Rvs at h; exact h
theorem rvs_nilr {vs : List V} (h : Rvs K φ H vs []) : vs = [] := by unfold Rvs at h; exact h
theorem Rvs.length : ∀ {vs : List V} {xs : List MV}, Rvs K φ H vs xs → vs.length = xs.length
  | vs, [], h => by rw [rvs_nilr h]; rfl
  | vs, x :: xs, h => by
    obtain ⟨v, r, rfl, _, b⟩ := rvs_invr h
    simp [Rvs.length b]
theorem Rvs.get : ∀ {vs : List V} {xs : List MV} {i : Nat} {x : MV}, Rvs K φ H vs xs → xs[i]? = some x → ∃ v, vs[i]? = some v ∧ Rv K φ H v x
  | vs, [], i, x, _, e => by simp at e
  | vs, y :: ys, 0, x, h, e => by
    obtain ⟨v, r, rfl, a, _⟩ := rvs_invr h
    simp at e
    subst e
    exact ⟨v, rfl, a⟩
  | vs, y :: ys, i + 1, x, h, e => by
    obtain ⟨v, r, rfl, _, b⟩ := rvs_invr h
    obtain ⟨u, e1, e2⟩ := Rvs.get (i := i) b (by simpa using e)
    exact ⟨u, by simpa using e1, e2⟩
theorem Rvs.getv {vs : List V} {xs : List MV} {i : Nat} {v : V} (h : Rvs K φ H vs xs) (e : vs[i]? = some v) : ∃ x, xs[i]? = some x ∧ Rv K φ H v x := by
  have hl := h.length
  have hi : i < xs.length := by rw [← hl]; exact (List.getElem?_eq_some_iff.mp e).1
  obtain ⟨u, e1, e2⟩ := h.get (List.getElem?_eq_getElem hi)
  rw [e] at e1
  cases e1
  exact ⟨_, List.getElem?_eq_getElem hi, e2⟩
theorem Rvs.app : ∀ {vs ws : List V} {xs ys : List MV}, Rvs K φ H vs xs → Rvs K φ H ws ys → Rvs K φ H (vs ++ ws) (xs ++ ys)
  | vs, ws, [], ys, h, k => by rw [rvs_nilr h]; exact k
  | vs, ws, x :: xs, ys, h, k => by
    obtain ⟨v, r, rfl, a, b⟩ := rvs_invr h
    exact rvs_cons a (b.app k)
theorem Rvs.take : ∀ {vs : List V} {xs : List MV} (n : Nat), Rvs K φ H vs xs → Rvs K φ H (vs.take n) (xs.take n)
  | _, _, 0, _ => by simp; exact rvs_nil
  | vs, [], n + 1, h => by rw [rvs_nilr h]; simp; exact rvs_nil
  | vs, x :: xs, n + 1, h => by
    obtain ⟨v, r, rfl, a, b⟩ := rvs_invr h
    simp
    exact rvs_cons a (b.take n)
theorem Rvs.drop : ∀ {vs : List V} {xs : List MV} (n : Nat), Rvs K φ H vs xs → Rvs K φ H (vs.drop n) (xs.drop n)
  | _, _, 0, h => by simpa using h
  | vs, [], n + 1, h => by rw [rvs_nilr h]; simp; exact rvs_nil
  | vs, x :: xs, n + 1, h => by
    obtain ⟨v, r, rfl, a, b⟩ := rvs_invr h
    simpa using b.drop n
theorem Rvs.set {v : V} {x : MV} (a : Rv K φ H v x) : ∀ {vs : List V} {xs : List MV} (n : Nat), Rvs K φ H vs xs → Rvs K φ H (vs.set n v) (xs.set n x)
  | vs, [], n, h => by rw [rvs_nilr h]; simp; exact rvs_nil
  | vs, y :: ys, 0, h => by
    obtain ⟨w, r, rfl, _, b⟩ := rvs_invr h
    exact rvs_cons a b
  | vs, y :: ys, n + 1, h => by
    obtain ⟨w, r, rfl, c, b⟩ := rvs_invr h
    exact rvs_cons c (Rvs.set a n b)
theorem Rvs.rev {vs : List V} {xs : List MV} (h : Rvs K φ H vs xs) : Rvs K φ H vs.reverse xs.reverse := by
  induction xs generalizing vs with
  | nil => rw [rvs_nilr h]; exact rvs_nil
  | cons x xs ih =>
    obtain ⟨v, r, rfl, a, b⟩ := rvs_invr h
    rw [List.reverse_cons, List.reverse_cons]
    exact (ih b).app (rvs_cons a rvs_nil)
theorem Rvs.flat {vs : List V} {xs : List MV} (h : Rvs K φ H vs xs) : ∀ n : Nat, Rvs K φ H (List.replicate n vs).flatten (List.replicate n xs).flatten
  | 0 => by simp; exact rvs_nil
  | n + 1 => by
    rw [List.replicate_succ, List.replicate_succ, List.flatten_cons, List.flatten_cons]
    exact h.app (h.flat n)
theorem Rvs.map {α : Type} {f : α → V} {g : α → MV} (h : ∀ x, Rv K φ H (f x) (g x)) : ∀ l : List α, Rvs K φ H (l.map f) (l.map g)
  | [] => rvs_nil
  | x :: l => rvs_cons (h x) (Rvs.map h l)
end
/-- what stands at the machine's objects -/
def mo : HO → Bool
  | .lst _ => true
  | .dK _ => true
  | .dT _ => true
  | .ins _ _ _ => true
  | _ => false
def Lv (φ : Ph) (H : Hp) : Prop := (∀ a ∈ φ.a, ∃ u, H a = some u ∧ mo u = true) ∧ ∀ a ∈ φ.b, ∃ u, H a = some u ∧ mo u = true
/-- from one moment to a later one: what values lean on -/
structure FrB (φ φ' : Ph) (H H' : Hp) : Prop where
  pre : φ.a <+: φ'.a
  keep : ∀ a o, H a = some o → Ni φ a → H' a = some o
  nw : ∀ a o, H a = some o → Ni φ a → Ni φ' a
/-- .. what a piece of code does -/
structure Fr (φ φ' : Ph) (H H' : Hp) : Prop where
  pre : φ.a <+: φ'.a
  bb : φ'.b = φ.b
  keep : ∀ a o, H a = some o → a ∉ φ.a → H' a = some o
  new : ∀ a, a ∈ φ'.a → a ∉ φ.a → H a = none
theorem Fr.refl (φ : Ph) (H : Hp) : Fr φ φ H H := ⟨List.prefix_refl _, rfl, fun _ _ e _ => e, fun a h n => absurd h n⟩
theorem Fr.trans {φ φ1 φ2 : Ph} {H H1 H2 : Hp} (f : Fr φ φ1 H H1) (g : Fr φ1 φ2 H1 H2) : Fr φ φ2 H H2 where
  pre := f.pre.trans g.pre
  bb := g.bb.trans f.bb
  keep := fun a o e n => by
    refine g.keep a o (f.keep a o e n) fun h => ?_
    rw [f.new a h n] at e
    cases e
  new := fun a h n => by
    by_cases h1 : a ∈ φ1.a
    · exact f.new a h1 n
    · cases q : H a with
      | none => rfl
      | some o =>
        have := f.keep a o q n
        rw [g.new a h h1] at this
        cases this
theorem Fr.B {φ φ' : Ph} {H H' : Hp} (f : Fr φ φ' H H') : FrB φ φ' H H' := by
  refine ⟨f.pre, fun a o e n => f.keep a o e n.na, fun a o e n => ⟨fun h => ?_, ?_⟩⟩
  · rw [f.new a h n.na] at e
    cases e
  · rw [f.bb]
    exact n.nb
section
variable {K : PySem.W.Frag} {φ φ' : Ph} {H H' : Hp}
theorem Lv.no {a : Addr} {u : HO} (l : Lv φ H) (e : H a = some u) (h : mo u = false) : Ni φ a := by
  refine ⟨fun m => ?_, fun m => ?_⟩
  · obtain ⟨w, e1, e2⟩ := l.1 a m
    rw [e] at e1
    cases e1
    rw [h] at e2
    cases e2
  · obtain ⟨w, e1, e2⟩ := l.2 a m
    rw [e] at e1
    cases e1
    rw [h] at e2
    cases e2
theorem FrB.rd {a : Addr} {u : HO} (l : Lv φ H) (f : FrB φ φ' H H') (h : mo u = false) (r : Rd H a u) : Rd H' a u := by
  rcases r with r | ⟨o, r⟩
  · exact .inl (f.keep _ _ r (l.no r h))
  · exact .inr ⟨o, f.keep _ _ r (l.no r rfl)⟩
theorem FrB.sqt {a : Addr} {xs : List V} (l : Lv φ H) (f : FrB φ φ' H H') (h : SqT K H a xs) : SqT K H' a xs := h.imp (f.rd l rfl) id
theorem Fr.sqt {a : Addr} {xs : List V} (l : Lv φ H) (f : Fr φ φ' H H') (h : SqT K H a xs) : SqT K H' a xs := f.B.sqt l h
theorem FrB.sqi {a : Addr} {xs : List V} (f : FrB φ φ' H H') (h : SqI K φ H a xs) : SqI K φ' H' a xs := by
  refine h.imp (fun ⟨r, n⟩ => ?_) id
  rcases r with r | ⟨o, r⟩
  · exact ⟨.inl (f.keep _ _ r n), f.nw _ _ r n⟩
  · exact ⟨.inr ⟨o, f.keep _ _ r n⟩, f.nw _ _ r n⟩
theorem Fr.sqi {a : Addr} {xs : List V} (f : Fr φ φ' H H') (h : SqI K φ H a xs) : SqI K φ' H' a xs := f.B.sqi h
mutual
theorem Rv.mono (l : Lv φ H) (f : FrB φ φ' H H') : ∀ (x : MV) (v : V), Rv K φ H v x → Rv K φ' H' v x
  | .non, v, h => by unfold Rv at h ⊢; exact h
  | .bl b, v, h => by unfold Rv at h ⊢; exact h
  | .int i, v, h => by unfold Rv at h ⊢; exact h
  | .str x, v, h => by unfold Rv at h ⊢; exact h
  | .tup xs, v, h => by
    unfold Rv at h ⊢
    obtain ⟨a, vs, e, q, r⟩ := h
    exact ⟨a, vs, e, f.keep _ _ q (l.no q rfl), Rvs.mono l f xs vs r⟩
  | .ctup xs, v, h => by
    unfold Rv at h ⊢
    obtain ⟨a, vs, e, q, r⟩ := h
    exact ⟨a, vs, e, f.sqt l q, Rvs.mono l f xs vs r⟩
  | .tl xs, v, h => by
    unfold Rv at h ⊢
    obtain ⟨a, vs, e, q, n, r⟩ := h
    exact ⟨a, vs, e, f.keep _ _ q n, f.nw _ _ q n, Rvs.mono l f xs vs r⟩
  | .rol xs, v, h => by
    unfold Rv at h ⊢
    obtain ⟨a, vs, e, q, r⟩ := h
    exact ⟨a, vs, e, f.sqi q, Rvs.mono l f xs vs r⟩
  | .td ks xs, v, h => by
    unfold Rv at h ⊢
    obtain ⟨a, vs, e, q, n, z, r⟩ := h
    exact ⟨a, vs, e, f.keep _ _ q n, f.nw _ _ q n, z, Rvs.mono l f xs vs r⟩
  | .ref n, v, h => by
    unfold Rv at h ⊢
    obtain ⟨a, e, q⟩ := h
    obtain ⟨t, et⟩ := f.pre
    refine ⟨a, e, ?_⟩
    rw [← et, List.getElem?_append_left (List.getElem?_eq_some_iff.mp q).1]
    exact q
  | .raw u, v, h => by unfold Rv at h ⊢; exact h
  | .exc a d g x, v, h => by
    unfold Rv at h ⊢
    obtain ⟨e, r⟩ := h
    refine ⟨e, ?_⟩
    rcases r with r | ⟨dx, u, e1, e2, r⟩
    · exact .inl r
    · exact .inr ⟨dx, u, e1, f.keep _ _ e2 (l.no e2 rfl), Rv.mono l f x u r⟩
theorem Rvs.mono (l : Lv φ H) (f : FrB φ φ' H H') : ∀ (xs : List MV) (vs : List V), Rvs K φ H vs xs → Rvs K φ' H' vs xs
  | [], vs, h => by unfold Rvs at h ⊢; exact h
  | x :: xs, vs, h => by
    unfold Rvs at h ⊢
    obtain ⟨v, r, e, a, b⟩ := h
    exact ⟨v, r, e, Rv.mono l f x v a, Rvs.mono l f xs r b⟩
end
end
/-- objects -/
def Ro (K : PySem.W.Frag) (φ : Ph) (H : Hp) : HO → MO → Prop
  | .lst vs, .lst xs => Rvs K φ H vs xs
  | .dK kvs, .dK ms => kvs.map (·.1) = ms.map (·.1) ∧ Rvs K φ H (kvs.map (·.2)) (ms.map (·.2))
  | .dT kvs, .dT ms => kvs.map (·.1) = ms.map (·.1) ∧ Rvs K φ H (kvs.map (·.2)) (ms.map (·.2))
  | .ins C _ fs, .ins c gs => C = He.ga K c ∧ fs.map (·.1) = gs.map (·.1) ∧ Rvs K φ H (fs.map (·.2)) (gs.map (·.2))
  | _, _ => False
theorem Ro.mo {K : PySem.W.Frag} {φ : Ph} {H : Hp} {u : HO} {o : MO} (h : Ro K φ H u o) : mo u = true := by
  cases u <;> cases o <;> first | rfl | exact h.elim
theorem Ro.mono {K : PySem.W.Frag} {φ φ' : Ph} {H H' : Hp} (l : Lv φ H) (f : FrB φ φ' H H') {u : HO} {o : MO} (h : Ro K φ H u o) : Ro K φ' H' u o := by
  cases u <;> cases o <;> first
    | exact h.elim
    | exact Rvs.mono l f _ _ h
    | exact ⟨h.1, Rvs.mono l f _ _ h.2⟩
    | exact ⟨h.1, h.2.1, Rvs.mono l f _ _ h.2.2⟩
structure Sim (K : PySem.W.Frag) (φ : Ph) (h : Mh) (H : Hp) : Prop where
  len : φ.a.length = h.length
  nd : φ.a.Nodup
  ob : ∀ (i : Nat) (a : Addr), φ.a[i]? = some a → ∃ u o, h[i]? = some o ∧ H a = some u ∧ Ro K φ H u o
  bn : ∀ a ∈ φ.b, a ∉ φ.a ∧ ∃ u, H a = some u ∧ mo u = true
section
variable {K : PySem.W.Frag} {φ φ' : Ph} {h : Mh} {H H' : Hp}
theorem Sim.lv (s : Sim K φ h H) : Lv φ H := ⟨fun a m => by
  obtain ⟨i, hi⟩ := List.mem_iff_getElem?.mp m
  obtain ⟨u, o, _, e, r⟩ := s.ob i a hi
  exact ⟨u, e, r.mo⟩, fun a m => by
  obtain ⟨_, u, e, k⟩ := s.bn a m
  exact ⟨u, e, k⟩⟩
theorem Sim.rv (s : Sim K φ h H) (f : Fr φ φ' H H') {v : V} {x : MV} (r : Rv K φ H v x) : Rv K φ' H' v x := Rv.mono s.lv f.B x v r
theorem Sim.rvs (s : Sim K φ h H) (f : Fr φ φ' H H') {v : List V} {x : List MV} (r : Rvs K φ H v x) : Rvs K φ' H' v x := Rvs.mono s.lv f.B x v r
theorem Sim.rvB (s : Sim K φ h H) (f : FrB φ φ' H H') {v : V} {x : MV} (r : Rv K φ H v x) : Rv K φ' H' v x := Rv.mono s.lv f x v r
theorem Sim.rvsB (s : Sim K φ h H) (f : FrB φ φ' H H') {v : List V} {x : List MV} (r : Rvs K φ H v x) : Rvs K φ' H' v x := Rvs.mono s.lv f x v r
/-- the object at n -/
theorem Sim.at (s : Sim K φ h H) {n : Nat} {o : MO} (e : h[n]? = some o) : ∃ a u, φ.a[n]? = some a ∧ H a = some u ∧ Ro K φ H u o := by
  have hn : n < φ.a.length := by rw [s.len]; exact (List.getElem?_eq_some_iff.mp e).1
  obtain ⟨u, o', e1, e2, r⟩ := s.ob n _ (List.getElem?_eq_getElem hn)
  rw [e] at e1
  cases e1
  exact ⟨_, u, List.getElem?_eq_getElem hn, e2, r⟩
theorem Sim.ref (s : Sim K φ h H) {n : Nat} {v : V} (r : Rv K φ H v (.ref n)) {o : MO} (e : h[n]? = some o) : ∃ a u, v = .ref a ∧ φ.a[n]? = some a ∧ H a = some u ∧ Ro K φ H u o := by
  unfold Rv at r
  obtain ⟨a, e1, e2⟩ := r
  obtain ⟨b, u, e3, e4, r⟩ := s.at e
  rw [e2] at e3
  cases e3
  exact ⟨a, u, e1, e2, e4, r⟩
theorem Sim.notin (s : Sim K φ h H) {p : Addr} (e : H p = none) : Ni φ p := by
  refine ⟨fun m => ?_, fun m => ?_⟩
  · obtain ⟨u, q, _⟩ := s.lv.1 p m
    rw [e] at q
    cases q
  · obtain ⟨_, xs, q, _⟩ := s.bn p m
    rw [e] at q
    cases q
/-- nothing of the machine's changes -/
theorem Sim.stepB (s : Sim K φ h H) (e : φ'.a = φ.a) (f : FrB φ φ' H H') (k : ∀ a ∈ φ.a, H' a = H a) (bn : ∀ a ∈ φ'.b, a ∉ φ'.a ∧ ∃ u, H' a = some u ∧ mo u = true) : Sim K φ' h H' := ⟨by rw [e]; exact s.len, by rw [e]; exact s.nd, fun i a q => by
  rw [e] at q
  obtain ⟨u, o, e1, e2, r⟩ := s.ob i a q
  exact ⟨u, o, e1, by rw [k a (List.mem_of_getElem? q)]; exact e2, r.mono s.lv f⟩, bn⟩
/-- objects that are not the machine's come -/
theorem Fr.out {p : Addr} {u : HO} (e : H p = none) : Fr φ φ H (upd H p u) := ⟨List.prefix_refl _, rfl, fun a o q _ => by rw [upd_ne (ne_of_none q e)]; exact q, fun a h n => absurd h n⟩
theorem Sim.bnF (s : Sim K φ h H) (f : Fr φ φ' H H') : ∀ a ∈ φ'.b, a ∉ φ'.a ∧ ∃ u, H' a = some u ∧ mo u = true := fun a m => by
  rw [f.bb] at m
  obtain ⟨n, xs, e, k⟩ := s.bn a m
  refine ⟨fun z => ?_, xs, f.keep _ _ e n, k⟩
  rw [f.new a z n] at e
  cases e
theorem Sim.out (s : Sim K φ h H) {p : Addr} {u : HO} (e : H p = none) : Sim K φ h (upd H p u) := s.stepB rfl (Fr.out e).B (fun a m => upd_ne fun z => (s.notin e).na (z ▸ m)) (s.bnF (Fr.out e))
/-- a new object of the machine -/
theorem Fr.push {p : Addr} {u : HO} (e : H p = none) : Fr φ (φ.push p) H (upd H p u) := ⟨List.prefix_append _ _, rfl, fun a o q _ => by rw [upd_ne (ne_of_none q e)]; exact q, fun a m n => by
  rcases List.mem_append.mp m with q | q
  · exact absurd q n
  · rw [List.mem_singleton.mp q]; exact e⟩
theorem Sim.push (s : Sim K φ h H) {p : Addr} {u : HO} {o : MO} (e : H p = none) (r : Ro K φ H u o) : Sim K (φ.push p) (h ++ [o]) (upd H p u) := by
  have f : Fr φ (φ.push p) H (upd H p u) := Fr.push e
  refine ⟨by simp [Ph.push, s.len], ?_, fun i a q => ?_, s.bnF f⟩
  · show (φ.a ++ [p]).Nodup
    rw [List.nodup_append]
    refine ⟨s.nd, by simp, fun a m b n z => ?_⟩
    rw [List.mem_singleton.mp n] at z
    exact (s.notin e).na (z ▸ m)
  · have q : (φ.a ++ [p])[i]? = some a := q
    by_cases hi : i < φ.a.length
    · rw [List.getElem?_append_left hi] at q
      obtain ⟨w, o', e1, e2, r'⟩ := s.ob i a q
      refine ⟨w, o', by rw [List.getElem?_append_left (by rw [← s.len]; exact hi)]; exact e1, ?_, r'.mono s.lv f.B⟩
      rw [upd_ne (ne_of_none e2 e)]
      exact e2
    · have hl : i < (φ.a ++ [p]).length := (List.getElem?_eq_some_iff.mp q).1
      rw [List.length_append, List.length_singleton] at hl
      have e0 : i = φ.a.length := by omega
      rw [e0, List.getElem?_append_right (Nat.le_refl _)] at q
      simp at q
      subst q
      refine ⟨u, o, ?_, upd_same, r.mono s.lv f.B⟩
      rw [e0, s.len, List.getElem?_append_right (Nat.le_refl _)]
      simp
/-- an object of the machine changes -/
theorem Fr.put {a : Addr} {u : HO} (m : a ∈ φ.a) : Fr φ φ H (upd H a u) := ⟨List.prefix_refl _, rfl, fun b o q n => by rw [upd_ne fun z => n (by rw [z]; exact m)]; exact q, fun b x y => absurd x y⟩
theorem Sim.put (s : Sim K φ h H) {n : Nat} {a : Addr} {u : HO} {o : MO} (e : φ.a[n]? = some a) (r : Ro K φ H u o) : Sim K φ (h.set n o) (upd H a u) := by
  have m : a ∈ φ.a := List.mem_of_getElem? e
  have f : Fr φ φ H (upd H a u) := Fr.put m
  refine ⟨by simp [s.len], s.nd, fun i b q => ?_, s.bnF f⟩
  obtain ⟨w, o', e1, e2, r'⟩ := s.ob i b q
  by_cases hi : i = n
  · subst hi
    rw [e] at q
    cases q
    refine ⟨u, o, ?_, upd_same, r.mono s.lv f.B⟩
    rw [List.getElem?_set]
    simp [(List.getElem?_eq_some_iff.mp e1).1]
  · have hb : b ≠ a := fun z => by
      subst z
      exact hi ((List.getElem?_inj (List.getElem?_eq_some_iff.mp q).1 s.nd).mp (by rw [q, e]))
    refine ⟨w, o', ?_, by rw [upd_ne hb]; exact e2, r'.mono s.lv f.B⟩
    rw [List.getElem?_set_ne (Ne.symm hi)]
    exact e1
/-! lists that are being made -/
theorem FrB.ban {p : Addr} {u : HO} (e : H p = none) : FrB φ (φ.ban p) H (upd H p u) := ⟨List.prefix_refl _, fun a o q _ => by rw [upd_ne (ne_of_none q e)]; exact q, fun a o q n => ⟨n.na, fun m => by
  rcases List.mem_cons.mp m with z | z
  · rw [z, e] at q; cases q
  · exact n.nb z⟩⟩
theorem Sim.ban (s : Sim K φ h H) {p : Addr} {u : HO} (e : H p = none) (k : mo u = true) : Sim K (φ.ban p) h (upd H p u) := s.stepB rfl (FrB.ban e) (fun a m => upd_ne fun z => (s.notin e).na (z ▸ m)) fun a m => by
  rcases List.mem_cons.mp m with z | z
  · rw [z]; exact ⟨(s.notin e).na, u, upd_same, k⟩
  · obtain ⟨n, ys, q, k2⟩ := s.bn a z
    exact ⟨n, ys, by rw [upd_ne (ne_of_none q e)]; exact q, k2⟩
theorem FrB.grow {p : Addr} {u : HO} (m : p ∈ φ.b) : FrB φ φ H (upd H p u) := ⟨List.prefix_refl _, fun a o q n => by rw [upd_ne fun z => n.nb (by rw [z]; exact m)]; exact q, fun a o q n => n⟩
theorem Sim.grow (s : Sim K φ h H) {p : Addr} {u : HO} (m : p ∈ φ.b) (k : mo u = true) : Sim K φ h (upd H p u) := s.stepB rfl (FrB.grow m) (fun a ma => upd_ne fun z => (s.bn p m).1 (z ▸ ma)) fun a ma => by
  obtain ⟨n, ys, q, k2⟩ := s.bn a ma
  refine ⟨n, ?_⟩
  by_cases z : a = p
  · subst z; exact ⟨u, upd_same, k⟩
  · exact ⟨ys, by rw [upd_ne z]; exact q, k2⟩
theorem FrB.free {p : Addr} {b : List Addr} (e : φ.b = p :: b) : FrB φ ⟨φ.a, b⟩ H H := ⟨List.prefix_refl _, fun a o q _ => q, fun a o q n => ⟨n.na, fun m => n.nb (by rw [e]; exact List.mem_cons_of_mem _ m)⟩⟩
theorem Sim.free (s : Sim K φ h H) {p : Addr} {b : List Addr} (e : φ.b = p :: b) : Sim K ⟨φ.a, b⟩ h H := s.stepB rfl (FrB.free e) (fun _ _ => rfl) fun a m => s.bn a (by rw [e]; exact List.mem_cons_of_mem _ m)
/-- what was being made becomes an object of the machine -/
theorem FrB.own {p : Addr} {b : List Addr} (e : φ.b = p :: b) : FrB φ ⟨φ.a ++ [p], b⟩ H H := ⟨List.prefix_append _ _, fun a o q _ => q, fun a o q n => ⟨fun m => by
  rcases List.mem_append.mp m with z | z
  · exact n.na z
  · exact n.nb (by rw [e, List.mem_singleton.mp z]; exact List.mem_cons_self ..), fun m => n.nb (by rw [e]; exact List.mem_cons_of_mem _ m)⟩⟩
theorem Sim.own (s : Sim K φ h H) {p : Addr} {b : List Addr} {u : HO} {o : MO} (e : φ.b = p :: b) (nb : p ∉ b) (hp : H p = some u) (r : Ro K φ H u o) : Sim K ⟨φ.a ++ [p], b⟩ (h ++ [o]) H := by
  have np : p ∉ φ.a := (s.bn p (by rw [e]; exact List.mem_cons_self ..)).1
  have f : FrB φ ⟨φ.a ++ [p], b⟩ H H := FrB.own e
  refine ⟨by simp [s.len], ?_, fun i a q => ?_, fun a m => ?_⟩
  · show (φ.a ++ [p]).Nodup
    rw [List.nodup_append]
    refine ⟨s.nd, by simp, fun a m b n z => ?_⟩
    rw [List.mem_singleton.mp n] at z
    exact np (z ▸ m)
  · have q : (φ.a ++ [p])[i]? = some a := q
    by_cases hi : i < φ.a.length
    · rw [List.getElem?_append_left hi] at q
      obtain ⟨w, o', e1, e2, r'⟩ := s.ob i a q
      exact ⟨w, o', by rw [List.getElem?_append_left (by rw [← s.len]; exact hi)]; exact e1, e2, r'.mono s.lv f⟩
    · have hl : i < (φ.a ++ [p]).length := (List.getElem?_eq_some_iff.mp q).1
      rw [List.length_append, List.length_singleton] at hl
      have e0 : i = φ.a.length := by omega
      rw [e0, List.getElem?_append_right (Nat.le_refl _)] at q
      simp at q
      subst q
      refine ⟨u, o, ?_, hp, r.mono s.lv f⟩
      rw [e0, s.len, List.getElem?_append_right (Nat.le_refl _)]
      simp
  · obtain ⟨n, v, q, k⟩ := s.bn a (by rw [e]; exact List.mem_cons_of_mem _ m)
    refine ⟨fun z => ?_, v, q, k⟩
    rcases List.mem_append.mp z with z | z
    · exact n z
    · rw [List.mem_singleton.mp z] at m
      exact nb m
theorem Rv.last {p : Addr} (s : Sim K φ h H) : Rv K (φ.push p) H' (.ref p) (.ref h.length) := by
  unfold Rv
  refine ⟨p, rfl, ?_⟩
  show (φ.a ++ [p])[h.length]? = some p
  rw [← s.len, List.getElem?_append_right (Nat.le_refl _)]
  simp
end
/-- slots -/
structure Rg (K : PySem.W.Frag) (φ : Ph) (H : Hp) (σ : L2.St) (g : Sg) : Prop where
  len : σ.length = g.length
  get : ∀ (i : Nat) (x : MV), g[i]? = some (some x) → ∃ v, σ[i]? = some (some v) ∧ Rv K φ H v x
theorem Rg.monoB {K : PySem.W.Frag} {φ φ' : Ph} {H H' : Hp} {σ : L2.St} {g : Sg} (l : Lv φ H) (f : FrB φ φ' H H') (r : Rg K φ H σ g) : Rg K φ' H' σ g := ⟨r.len, fun i x e => let ⟨v, a, b⟩ := r.get i x e; ⟨v, a, Rv.mono l f x v b⟩⟩
theorem Rg.mono {K : PySem.W.Frag} {φ φ' : Ph} {H H' : Hp} {σ : L2.St} {g : Sg} (l : Lv φ H) (f : Fr φ φ' H H') (r : Rg K φ H σ g) : Rg K φ' H' σ g := r.monoB l f.B
theorem Rg.set {K : PySem.W.Frag} {φ : Ph} {H : Hp} {σ : L2.St} {g : Sg} {i : Nat} {v : V} {x : MV} (r : Rg K φ H σ g) (a : Rv K φ H v x) : Rg K φ H (σ.set i (some v)) (g.set i (some x)) := by
  refine ⟨by simp [r.len], fun j y e => ?_⟩
  by_cases hj : i = j
  · subst hj
    have hi : i < g.length := by
      have := (List.getElem?_eq_some_iff.mp e).1
      simpa using this
    rw [List.getElem?_set] at e ⊢
    rw [r.len]
    simp [hi] at e ⊢
    subst e
    exact a
  · rw [List.getElem?_set_ne hj] at e ⊢
    exact r.get j y e
theorem Rg.clr {K : PySem.W.Frag} {φ : Ph} {H : Hp} {σ : L2.St} {g : Sg} {i : Nat} {o : Option V} (r : Rg K φ H σ g) : Rg K φ H (σ.set i o) (g.set i none) := by
  refine ⟨by simp [r.len], fun j y e => ?_⟩
  by_cases hj : i = j
  · subst hj
    exfalso
    rw [List.getElem?_set] at e
    simp at e
  · rw [List.getElem?_set_ne hj] at e ⊢
    exact r.get j y e
/-- exceptions -/
def Re (K : PySem.W.Frag) (φ : Ph) (H : Hp) (e : Exn) (C : Value) (d : Option Addr) : Prop :=
  (match e.cl with
    | .own c => C = .ref (He.ga K c)
    | .blt n => C = .type n) ∧
  (match e.val with
    | none => d = none
    | some (f, x) => ∃ dx v, d = some dx ∧ H dx = some (.xd [(f, v)]) ∧ Rv K φ H v x)
/-! ### the end of a piece of code -/
section
variable {α β γ δ : Type}
def Pg (R : Ph → Hp → β → α → Prop) (K : PySem.W.Frag) (W : WX) (σ : L2.St) (φ : Ph) (H : Hp) (Q : β → Hp → Prop) : Rs α → Prop
  | .ok x h' => ∀ v φ' H', Fr φ φ' H H' → Sim K φ' h' H' → R φ' H' v x → Q v H'
  | .ex e h' => ∀ C d φ' H', Fr φ φ' H H' → Sim K φ' h' H' → Re K φ' H' e C d → W C d σ H'
def tG (R : Ph → Hp → β → α → Prop) (K : PySem.W.Frag) (W : WX) (A : Sg → M α) : L2.St → Hp → (β → Hp → Prop) → Prop := fun σ H Q =>
  ∃ φ g h r, Sim K φ h H ∧ Rg K φ H σ g ∧ A g h = some r ∧ Pg R K W σ φ H Q r
abbrev tM (K : PySem.W.Frag) (W : WX) (A : Sg → M MV) : TE := tG (Rv K) K W A
abbrev tMA (K : PySem.W.Frag) (W : WX) (A : Sg → M (List MV)) : TA := tG (Rvs K) K W A
abbrev tMT (K : PySem.W.Frag) (W : WX) (A : Sg → M Bool) : TT := tG (fun _ _ b c => b = c) K W A
variable {R : Ph → Hp → β → α → Prop} {R' : Ph → Hp → δ → γ → Prop} {K : PySem.W.Frag} {W : WX} {σ : L2.St} {φ φ1 : Ph} {H H1 : Hp} {Q : β → Hp → Prop}
theorem Pg.mono {r : Rs α} (f : Fr φ φ1 H H1) (p : Pg R K W σ φ H Q r) : Pg R K W σ φ1 H1 Q r := by
  cases r with
  | ok x h' => exact fun v φ' H' g s q => p v φ' H' (f.trans g) s q
  | ex e h' => exact fun C d φ' H' g s q => p C d φ' H' (f.trans g) s q
theorem Pg.imp {Q' : β → Hp → Prop} {r : Rs α} (p : Pg R K W σ φ H Q r) (h : ∀ v H', Q v H' → Q' v H') : Pg R K W σ φ H Q' r := by
  cases r with
  | ok x h' => exact fun v φ' H' g s q => h _ _ (p v φ' H' g s q)
  | ex e h' => exact p
theorem bindG {A : M α} {F : α → M γ} {g : Sg} {h : Mh} {r : Rs γ} {P : β → Hp → Prop} {Q' : δ → Hp → Prop} {A' : Sg → M α} (hs : Sim K φ h H) (hg : Rg K φ H σ g) (e : bd A F h = some r) (p : Pg R' K W σ φ H Q' r) (eA : A' g = A)
    (k : ∀ x h1 v φ1 H1, Fr φ φ1 H H1 → Sim K φ1 h1 H1 → Rg K φ1 H1 σ g → R φ1 H1 v x → F x h1 = some r → Pg R' K W σ φ1 H1 Q' r → P v H1) : tG R K W A' σ H P := by
  unfold bd at e
  cases q : A h with
  | none => rw [q] at e; cases e
  | some s =>
    refine ⟨φ, g, h, s, hs, hg, by rw [eA]; exact q, ?_⟩
    rw [q] at e
    cases s with
    | ok x h1 =>
      exact fun v φ1 H1 f s1 rx => k x h1 v φ1 H1 f s1 (hg.mono hs.lv f) rx e (p.mono f)
    | ex ee h1 =>
      cases e
      exact p
end
/-! ### statements -/
inductive SR where
  | nx (g : Sg) (h : Mh) | rt (v : MV) (h : Mh) | bk (g : Sg) (h : Mh) | ct (g : Sg) (h : Mh) | ex (e : Exn) (g : Sg) (h : Mh)
abbrev MS := Sg → Mh → Option SR
def Ps (K : PySem.W.Frag) (W : WX) (φ : Ph) (H : Hp) (D : Ends) : SR → Prop
  | .nx g' h' => ∀ σ' φ' H', Fr φ φ' H H' → Sim K φ' h' H' → Rg K φ' H' σ' g' → D.nx σ' H'
  | .rt x h' => ∀ v φ' H', Fr φ φ' H H' → Sim K φ' h' H' → Rv K φ' H' v x → D.rt v H'
  | .bk g' h' => ∀ σ' φ' H', Fr φ φ' H H' → Sim K φ' h' H' → Rg K φ' H' σ' g' → D.bk σ' H'
  | .ct g' h' => ∀ σ' φ' H', Fr φ φ' H H' → Sim K φ' h' H' → Rg K φ' H' σ' g' → D.ct σ' H'
  | .ex e g' h' => ∀ σ' C d φ' H', Fr φ φ' H H' → Sim K φ' h' H' → Rg K φ' H' σ' g' → Re K φ' H' e C d → W C d σ' H'
def tS (K : PySem.W.Frag) (W : WX) (S : MS) : TS := fun D σ H => ∃ φ g h r, Sim K φ h H ∧ Rg K φ H σ g ∧ S g h = some r ∧ Ps K W φ H D r
theorem Ps.mono {K : PySem.W.Frag} {W : WX} {φ φ1 : Ph} {H H1 : Hp} {D : Ends} {r : SR} (f : Fr φ φ1 H H1) (p : Ps K W φ H D r) : Ps K W φ1 H1 D r := by
  cases r with
  | nx g' h' => exact fun σ' φ' H' g s q => p σ' φ' H' (f.trans g) s q
  | rt x h' => exact fun v φ' H' g s q => p v φ' H' (f.trans g) s q
  | bk g' h' => exact fun σ' φ' H' g s q => p σ' φ' H' (f.trans g) s q
  | ct g' h' => exact fun σ' φ' H' g s q => p σ' φ' H' (f.trans g) s q
  | ex e g' h' => exact fun σ' C d φ' H' g s q r => p σ' C d φ' H' (f.trans g) s q r
/-- an expression, then the rest of the statement -/
def bs {α : Type} (A : Sg → M α) (k : α → MS) : MS := fun g h => match A g h with
  | some (.ok x h') => k x g h'
  | some (.ex e h') => some (.ex e g h')
  | none => none
theorem bindS {α β : Type} {R : Ph → Hp → β → α → Prop} {K : PySem.W.Frag} {W : WX} {σ : L2.St} {φ : Ph} {H : Hp} {A : Sg → M α} {k : α → MS} {g : Sg} {h : Mh} {r : SR} {P : β → Hp → Prop} {D : Ends} (hs : Sim K φ h H) (hg : Rg K φ H σ g) (e : bs A k g h = some r) (p : Ps K W φ H D r)
    (kk : ∀ x h1 v φ1 H1, Fr φ φ1 H H1 → Sim K φ1 h1 H1 → Rg K φ1 H1 σ g → R φ1 H1 v x → k x g h1 = some r → Ps K W φ1 H1 D r → P v H1) : tG R K W A σ H P := by
  unfold bs at e
  cases q : A g h with
  | none => rw [q] at e; cases e
  | some s =>
    refine ⟨φ, g, h, s, hs, hg, q, ?_⟩
    rw [q] at e
    cases s with
    | ok x h1 => exact fun v φ1 H1 f s1 rx => kk x h1 v φ1 H1 f s1 (hg.mono hs.lv f) rx e (p.mono f)
    | ex ee h1 =>
      cases e
      exact fun C d φ' H' f s1 re => p σ C d φ' H' f s1 (hg.mono hs.lv f) re
end Mi
/-! Mi: expressions -/
namespace Mi
open PySem PySem.Spec PyProof.Rows L2 Ob StX

def fl {α : Type} : M α := fun _ => none
def xVar (i : Nat) : Sg → M MV := fun g h => match g[i]? with
  | some (some v) => some (.ok v h)
  | _ => none
def xC (v : MV) : Sg → M MV := fun _ h => some (.ok v h)
def x1 {α β : Type} (f : α → M β) (a : Sg → M α) : Sg → M β := fun g => bd (a g) f
def x2 {α β γ : Type} (f : α → β → M γ) (a : Sg → M α) (b : Sg → M β) : Sg → M γ := fun g => bd (a g) fun x => bd (b g) fun y => f x y
def xNil : Sg → M (List MV) := fun _ h => some (.ok [] h)
def xCons (a : Sg → M MV) (b : Sg → M (List MV)) : Sg → M (List MV) := x2 (fun x xs => pu (x :: xs)) a b
/-- a new list: true: an object of the machine -/
def mkl (b : Bool) (xs : List MV) : M MV := fun h => if b then some (.ok (.ref h.length) (h ++ [.lst xs])) else some (.ok (.tl xs) h)
def tpv : MV → Option (List MV)
  | .tup xs => some xs
  | .ctup xs => some xs
  | _ => none
/-- a list's items: to be read; of a list that may be joined -/
def lsv (x : MV) (h : Mh) : Option (List MV) := match x with
  | .tl xs => some xs
  | .rol xs => some xs
  | .ref n => match h[n]? with
    | some (.lst xs) => some xs
    | _ => none
  | _ => none
def lsw (x : MV) (h : Mh) : Option (List MV) := match x with
  | .tl xs => some xs
  | .ref n => match h[n]? with
    | some (.lst xs) => some xs
    | _ => none
  | _ => none
def keyOf : MV → Option Key
  | .int i => some (.inl i)
  | .str s => some (.inr s)
  | _ => none
def keysOf : List MV → Option (List Key)
  | [] => some []
  | x :: xs => match keyOf x, keysOf xs with
    | some k, some ks => some (k :: ks)
    | _, _ => none
def look {κ : Type} [DecidableEq κ] (kvs : List (κ × MV)) (k : κ) : Option MV := (kvs.find? fun kv => decide (kv.1 = k)).map (·.2)
def putM {κ : Type} [DecidableEq κ] (kvs : List (κ × MV)) (k : κ) (v : MV) : List (κ × MV) :=
  if (kvs.any fun kv => decide (kv.1 = k)) = true then kvs.map (fun kv => if kv.1 = k then (kv.1, v) else kv) else kvs ++ [(k, v)]
section
variable {K : PySem.W.Frag} {W : WX} {σ : L2.St} {φ : Ph} {h : Mh} {H : Hp} {Q : VK} {v w : V} {x y : MV} {vs ws : List V} {xs ys : List MV} {R : Rs MV}
theorem end_pu (s : Sim K φ h H) (r : Rv K φ H v x) (p : Pg (Rv K) K W σ φ H Q (.ok x h)) : Q v H := p v φ H (Fr.refl _ _) s r
theorem end_tup (s : Sim K φ h H) (r : Rvs K φ H vs xs) (p : Pg (Rv K) K W σ φ H Q (.ok (.tup xs) h)) : ∀ q, H q = none → Q (.ref q) (upd H q (.tup vs)) := fun q hq =>
  p _ φ _ (Fr.out hq) (s.out hq) (by unfold Rv; exact ⟨q, vs, rfl, upd_same, s.rvs (Fr.out hq) r⟩)
theorem end_mkl {b : Bool} (s : Sim K φ h H) (r : Rvs K φ H vs xs) (e : mkl b xs h = some R) (p : Pg (Rv K) K W σ φ H Q R) : ∀ q, H q = none → Q (.ref q) (upd H q (.lst vs)) := fun q hq => by
  unfold mkl at e
  cases b with
  | true =>
    cases e
    have f : Fr φ (φ.push q) H (upd H q (.lst vs)) := Fr.push hq
    exact p _ (φ.push q) _ f (s.push hq (show Ro K φ H (.lst vs) (.lst xs) from r)) (Rv.last s)
  | false =>
    cases e
    exact p _ φ _ (Fr.out hq) (s.out hq) (by unfold Rv; exact ⟨q, vs, rfl, upd_same, s.notin hq, s.rvs (Fr.out hq) r⟩)
theorem tpv_ok (e : tpv x = some xs) (r : Rv K φ H v x) : ∃ a vs, v = .ref a ∧ SqT K H a vs ∧ Rvs K φ H vs xs := by
  unfold tpv at e
  split at e
  · cases e
    unfold Rv at r
    obtain ⟨a, vs, e1, q, r⟩ := r
    exact ⟨a, vs, e1, SqT.of q, r⟩
  · cases e
    unfold Rv at r
    exact r
  · cases e
theorem lsw_ok (s : Sim K φ h H) (e : lsw x h = some xs) (r : Rv K φ H v x) : ∃ a vs, v = .ref a ∧ H a = some (.lst vs) ∧ Rvs K φ H vs xs := by
  unfold lsw at e
  split at e
  · cases e
    unfold Rv at r
    obtain ⟨a, vs, e1, q, _, r⟩ := r
    exact ⟨a, vs, e1, q, r⟩
  · split at e
    · rename_i o
      cases e
      obtain ⟨a, u, e1, _, e2, ro⟩ := s.ref r o
      cases u with
      | lst vs => exact ⟨a, vs, e1, e2, ro⟩
      | _ => exact ro.elim
    · cases e
  · cases e
theorem lsv_ok (s : Sim K φ h H) (e : lsv x h = some xs) (r : Rv K φ H v x) : ∃ a vs, v = .ref a ∧ SqL K H a vs ∧ Rvs K φ H vs xs := by
  cases x with
  | rol ys =>
    cases (show some ys = some xs from e)
    unfold Rv at r
    obtain ⟨a, vs, e1, q, r⟩ := r
    exact ⟨a, vs, e1, q.l, r⟩
  | tl ys =>
    obtain ⟨a, vs, e1, q, r⟩ := lsw_ok (x := .tl ys) s e r
    exact ⟨a, vs, e1, SqL.of q, r⟩
  | ref n =>
    obtain ⟨a, vs, e1, q, r⟩ := lsw_ok (x := .ref n) s e r
    exact ⟨a, vs, e1, SqL.of q, r⟩
  | _ => cases (show (none : Option (List MV)) = some xs from e)
theorem keyOf_ok {k : Key} (e : keyOf x = some k) (r : Rv K φ H v x) : v = kV k := by
  unfold keyOf at e
  split at e
  · cases e; unfold Rv at r; exact r
  · cases e; unfold Rv at r; exact r
  · cases e
theorem keysOf_ok : ∀ {xs : List MV} {vs : List V} {ks : List Key}, keysOf xs = some ks → Rvs K φ H vs xs → vs = ks.map kV
  | [], vs, ks, e, r => by cases e; rw [rvs_nilr r]; rfl
  | x :: xs, vs, ks, e, r => by
    obtain ⟨v, t, rfl, a, b⟩ := rvs_invr r
    unfold keysOf at e
    split at e
    · rename_i k ks' e1 e2
      cases e
      rw [keyOf_ok e1 a, keysOf_ok e2 b]; rfl
    · cases e
/-- entries -/
theorem look_ok {κ : Type} [DecidableEq κ] {k : κ} : ∀ {kvs : List (κ × V)} {ms : List (κ × MV)}, kvs.map (·.1) = ms.map (·.1) → Rvs K φ H (kvs.map (·.2)) (ms.map (·.2)) →
    (look ms k = none → valV kvs k = none) ∧ (∀ x, look ms k = some x → ∃ v, valV kvs k = some v ∧ Rv K φ H v x)
  | [], [], _, _ => ⟨fun _ => rfl, fun x e => by cases (show (none : Option MV) = some x from e)⟩
  | [], _ :: _, e, _ => by cases e
  | _ :: _, [], e, _ => by cases e
  | (k1, v) :: kvs, (k2, x) :: ms, e, r => by
    simp only [List.map_cons, List.cons.injEq] at e
    obtain ⟨e1, e2⟩ := e
    subst e1
    obtain ⟨a, b⟩ := rvs_inv (by simpa using r)
    by_cases hk : k1 = k
    · subst hk
      refine ⟨fun z => ?_, fun y z => ⟨v, ?_, ?_⟩⟩
      · simp [look] at z
      · simp [valV]
      · have : x = y := by simpa [look] using z
        rw [← this]; exact a
    · obtain ⟨i1, i2⟩ := look_ok (k := k) e2 b
      have h1 : look ((k1, x) :: ms) k = look ms k := by simp [look, hk]
      have h2 : valV ((k1, v) :: kvs) k = valV kvs k := by simp [valV, hk]
      rw [h1, h2]
      exact ⟨i1, i2⟩
theorem any_keys {κ : Type} [DecidableEq κ] {k : κ} {kvs : List (κ × V)} {ms : List (κ × MV)} (e : kvs.map (·.1) = ms.map (·.1)) : (kvs.any fun kv => decide (kv.1 = k)) = ms.any fun kv => decide (kv.1 = k) := by
  have h1 : (kvs.any fun kv => decide (kv.1 = k)) = (kvs.map (·.1)).any fun q => decide (q = k) := by rw [List.any_map]; rfl
  have h2 : (ms.any fun kv => decide (kv.1 = k)) = (ms.map (·.1)).any fun q => decide (q = k) := by rw [List.any_map]; rfl
  rw [h1, h2, e]
theorem put_map {κ : Type} [DecidableEq κ] {k : κ} (a : Rv K φ H v x) : ∀ {kvs : List (κ × V)} {ms : List (κ × MV)}, kvs.map (·.1) = ms.map (·.1) → Rvs K φ H (kvs.map (·.2)) (ms.map (·.2)) →
    Rvs K φ H ((kvs.map fun kv => if kv.1 = k then (kv.1, v) else kv).map (·.2)) ((ms.map fun kv => if kv.1 = k then (kv.1, x) else kv).map (·.2))
  | [], [], _, _ => rvs_nil
  | [], _ :: _, e, _ => by cases e
  | _ :: _, [], e, _ => by cases e
  | (k1, v1) :: kvs, (k2, x1) :: ms, e, r => by
    simp only [List.map_cons, List.cons.injEq] at e
    obtain ⟨e1, e2⟩ := e
    subst e1
    obtain ⟨c, b⟩ := rvs_inv (by simpa using r)
    simp only [List.map_cons]
    refine rvs_cons ?_ (put_map a e2 b)
    by_cases hk : k1 = k
    · simp [hk]; exact a
    · simp [hk]; exact c
theorem put_ok {κ : Type} [DecidableEq κ] {k : κ} {kvs : List (κ × V)} {ms : List (κ × MV)} (a : Rv K φ H v x) (e : kvs.map (·.1) = ms.map (·.1)) (r : Rvs K φ H (kvs.map (·.2)) (ms.map (·.2))) :
    (putK kvs k v).map (·.1) = (putM ms k x).map (·.1) ∧ Rvs K φ H ((putK kvs k v).map (·.2)) ((putM ms k x).map (·.2)) := by
  unfold putK putM
  rw [any_keys e]
  split
  · refine ⟨?_, put_map a e r⟩
    have h1 : ∀ (l : List (κ × V)), (l.map fun kv => if kv.1 = k then (kv.1, v) else kv).map (·.1) = l.map (·.1) := fun l => by
      rw [List.map_map]
      refine List.map_congr_left fun q _ => ?_
      simp only [Function.comp]
      split <;> rfl
    have h2 : ∀ (l : List (κ × MV)), (l.map fun kv => if kv.1 = k then (kv.1, x) else kv).map (·.1) = l.map (·.1) := fun l => by
      rw [List.map_map]
      refine List.map_congr_left fun q _ => ?_
      simp only [Function.comp]
      split <;> rfl
    rw [h1, h2, e]
  · refine ⟨by simp [e], ?_⟩
    rw [List.map_append, List.map_append]
    exact r.app (rvs_cons a rvs_nil)
end
/-! ### the rules' form -/
def Op1 (K : PySem.W.Frag) (f : MV → M MV) (r : V → Hp → VK → Prop) : Prop := ∀ {W : WX} {σ : L2.St} {φ : Ph} {h : Mh} {H : Hp} {v : V} {x : MV} {R : Rs MV} {Q : VK}, Sim K φ h H → Rv K φ H v x → f x h = some R → Pg (Rv K) K W σ φ H Q R → r v H Q
def Op2 (K : PySem.W.Frag) (f : MV → MV → M MV) (r : R2) : Prop := ∀ {W : WX} {σ : L2.St} {φ : Ph} {h : Mh} {H : Hp} {v w : V} {x y : MV} {R : Rs MV} {Q : VK}, Sim K φ h H → Rv K φ H v x → Rv K φ H w y → f x y h = some R → Pg (Rv K) K W σ φ H Q R → r v w H Q
def OpN (K : PySem.W.Frag) (f : List MV → M MV) (r : List V → Hp → VK → Prop) : Prop := ∀ {W : WX} {σ : L2.St} {φ : Ph} {h : Mh} {H : Hp} {vs : List V} {xs : List MV} {R : Rs MV} {Q : VK}, Sim K φ h H → Rvs K φ H vs xs → f xs h = some R → Pg (Rv K) K W σ φ H Q R → r vs H Q
def OpM (K : PySem.W.Frag) (f : MV → List MV → M MV) (r : V → List V → Hp → VK → Prop) : Prop := ∀ {W : WX} {σ : L2.St} {φ : Ph} {h : Mh} {H : Hp} {v : V} {x : MV} {vs : List V} {xs : List MV} {R : Rs MV} {Q : VK}, Sim K φ h H → Rv K φ H v x → Rvs K φ H vs xs → f x xs h = some R → Pg (Rv K) K W σ φ H Q R → r v vs H Q
def orE (t u : TE) : TE := fun σ H Q => t σ H Q ∨ u σ H Q
theorem PE.or {X : Cx} {e : Expr} {t u : TE} (a : PE X e t) (b : PE X e u) : PE X e (orE t u) := ⟨fun pins s σ H Q I h => h.elim (a.run pins s σ H Q I) (b.run pins s σ H Q I)⟩
def or2 (r r' : R2) : R2 := fun x y H Q => r x y H Q ∨ r' x y H Q
theorem OpR.or {X : Cx} {f : Value → Value → Sem Value} {r r' : R2} (a : OpR X f r) (b : OpR X f r') : OpR X f (or2 r r') := fun pins s σ H x y v u Q I rx ry h => Or.elim h (a pins s σ H x y v u Q I rx ry) (b pins s σ H x y v u Q I rx ry)
def orN (r r' : List V → Hp → VK → Prop) : List V → Hp → VK → Prop := fun xs H Q => r xs H Q ∨ r' xs H Q
theorem CallR.or {X : Cx} {f : Value} {r r' : List V → Hp → VK → Prop} (a : CallR X f r) (b : CallR X f r') : CallR X f (orN r r') := fun pins s σ H xs us Q I rx h => Or.elim h (a pins s σ H xs us Q I rx) (b pins s σ H xs us Q I rx)
section
variable {X : Cx} {K : PySem.W.Frag} {W : WX} {a b c : Expr} {A B C : Sg → M MV} {es : List Expr} {As : Sg → M (List MV)} {pos : Pos}
theorem m_var {i : Nat} (h : PE X a (tVar i)) : PE X a (tM K W (xVar i)) := pe_weak' h fun σ H Q ⟨φ, g, h, r, hs, hg, e, p⟩ => by
  unfold xVar at e
  split at e
  · rename_i v q
    cases e
    obtain ⟨u, e1, e2⟩ := hg.get i v q
    exact ⟨u, e1, end_pu hs e2 p⟩
  · cases e
where pe_weak' {X : Cx} {e : Expr} {t t' : TE} (h : PE X e t) (i : ∀ σ H Q, t' σ H Q → t σ H Q) : PE X e t' := ⟨fun pins s σ H Q I q => h.run pins s σ H Q I (i σ H Q q)⟩
end
theorem pew {X : Cx} {e : Expr} {t t' : TE} (h : PE X e t) (i : ∀ σ H Q, t' σ H Q → t σ H Q) : PE X e t' := ⟨fun pins s σ H Q I q => h.run pins s σ H Q I (i σ H Q q)⟩
theorem paw {X : Cx} {e : List Expr} {t t' : TA} (h : PA X e t) (i : ∀ σ H Q, t' σ H Q → t σ H Q) : PA X e t' := ⟨fun pos pins s σ H Q I q => h.run pos pins s σ H Q I (i σ H Q q)⟩
theorem ptw {X : Cx} {e : Expr} {t t' : TT} (h : PT X e t) (i : ∀ σ H Q, t' σ H Q → t σ H Q) : PT X e t' := ⟨fun pins s σ H Q I q => h.run pins s σ H Q I (i σ H Q q)⟩
section
variable {X : Cx} {K : PySem.W.Frag} {W : WX} {a b c : Expr} {A B C : Sg → M MV} {es : List Expr} {As : Sg → M (List MV)} {pos : Pos}
theorem m_c {v : V} {x : MV} (h : PE X a (tC v)) (r : ∀ K φ H, Rv K φ H v x) : PE X a (tM K W (xC x)) := pew h fun σ H Q ⟨φ, g, h, R, hs, hg, e, p⟩ => by
  cases e
  exact end_pu hs (r _ _ _) p
theorem m_int {i : Int} {j : Nat} : PE X (.Constant (.int i) j pos) (tM K W (xC (.int i))) := m_c pe_int fun _ _ _ => by unfold Rv; rfl
theorem m_str {i : Str} {j : Nat} : PE X (.Constant (.str i) j pos) (tM K W (xC (.str i))) := m_c pe_str fun _ _ _ => by unfold Rv; rfl
theorem m_bl {i : Bool} {j : Nat} : PE X (.Constant (.bool i) j pos) (tM K W (xC (.bl i))) := m_c pe_bl fun _ _ _ => by unfold Rv; rfl
theorem m_non {j : Nat} : PE X (.Constant .none j pos) (tM K W (xC .non)) := m_c pe_non fun _ _ _ => by unfold Rv; rfl
theorem m_gint {i : Int} (h : PE X a (tC (.int i))) : PE X a (tM K W (xC (.int i))) := m_c h fun _ _ _ => by unfold Rv; rfl
theorem m_gstr {i : Str} (h : PE X a (tC (.str i))) : PE X a (tM K W (xC (.str i))) := m_c h fun _ _ _ => by unfold Rv; rfl
theorem m_raw {u : V} (h : PE X a (tC u)) : PE X a (tM K W (xC (.raw u))) := m_c h fun _ _ _ => by unfold Rv; rfl
/-! arguments -/
theorem m_nil : PA X [] (tMA K W xNil) := paw pa_nil fun σ H Q ⟨φ, g, h, R, hs, hg, e, p⟩ => by
  cases e
  exact p [] φ H (Fr.refl _ _) hs rvs_nil
theorem m_cons (ha : PE X a (tM K W A)) (hr : PA X es (tMA K W As)) (hst : starEach (a :: es) X.env = (false, eval a X.env) :: starEach es X.env := by rfl) : PA X (a :: es) (tMA K W (xCons A As)) :=
  paw (pa_cons ha hr hst) fun σ H Q ⟨φ, g, h, R, hs, hg, e, p⟩ => bindG hs hg e p rfl fun x h1 v φ1 H1 f1 s1 g1 r1 e1 p1 => bindG s1 g1 e1 p1 rfl fun y h2 w φ2 H2 f2 s2 g2 r2 e2 p2 => by
    cases e2
    exact p2 _ φ2 H2 (Fr.refl _ _) s2 (rvs_cons (s1.rv f2 r1) r2)
/-! one, two, several -/
theorem m_un {op : UnaryOp} {f : MV → M MV} {r : V → Hp → VK → Prop} (ho : UnR X (unaryOp op) r) (hf : Op1 K f r) (ha : PE X a (tM K W A)) : PE X (.UnaryOp op a pos) (tM K W (x1 f A)) :=
  pew (pe_un ho ha) fun σ H Q ⟨φ, g, h, R, hs, hg, e, p⟩ => bindG hs hg e p rfl fun x h1 v φ1 H1 f1 s1 g1 r1 e1 p1 => hf s1 r1 e1 p1
theorem two {r : R2} {f : MV → MV → M MV} (hf : Op2 K f r) : ∀ σ H Q, tM K W (x2 f A B) σ H Q → tOp r (tM K W A) (tM K W B) σ H Q := fun σ H Q ⟨φ, g, h, R, hs, hg, e, p⟩ =>
  bindG hs hg e p rfl fun x h1 v φ1 H1 f1 s1 g1 r1 e1 p1 => bindG s1 g1 e1 p1 rfl fun y h2 w φ2 H2 f2 s2 g2 r2 e2 p2 => hf s2 (s1.rv f2 r1) r2 e2 p2
theorem m_bin {op : Operator} {r : R2} {f : MV → MV → M MV} (ho : OpR X (binaryOp op) r) (hf : Op2 K f r) (ha : PE X a (tM K W A)) (hb : PE X b (tM K W B)) : PE X (.BinOp a op b pos) (tM K W (x2 f A B)) := pew (pe_op ho ha hb) (two hf)
theorem m_cmp {op : CmpOp} {r : R2} {f : MV → MV → M MV} (ho : OpR X (compareOp op) r) (hf : Op2 K f r) (ha : PE X a (tM K W A)) (hb : PE X b (tM K W B)) (hm : behindInMarks op b = false) : PE X (.Compare a [op] [b] pos) (tM K W (x2 f A B)) := pew (pe_cmpR ho ha hb hm) (two hf)
theorem m_ix {r : R2} {f : MV → MV → M MV} (hr : IxR X r) (hf : Op2 K f r) (ha : PE X a (tM K W A)) (hb : PE X b (tM K W B)) (hp : PlainIx b) : PE X (.Subscript a b pos) (tM K W (x2 f A B)) := pew (pe_ix hr ha hb hp) (two hf)
theorem many {r : List V → Hp → VK → Prop} {f : List MV → M MV} (hf : OpN K f r) : ∀ σ H Q, tM K W (x1 f As) σ H Q → tCB r (tMA K W As) σ H Q := fun σ H Q ⟨φ, g, h, R, hs, hg, e, p⟩ =>
  bindG hs hg e p rfl fun x h1 v φ1 H1 f1 s1 g1 r1 e1 p1 => hf s1 r1 e1 p1
theorem m_callB {x : Str} {id : String} {p : Pos} {r : List V → Hp → VK → Prop} {f : List MV → M MV} (hc : CallR X (.builtin id) r) (hf : OpN K f r) (hg : Gl X x) (hm : X.mg x = none) (hv : bootBuiltins x = some (.builtin id)) (ha : PA X (a :: es) (tMA K W As)) (hn : x ≠ "__name__" := by decide)
    (hdb : (x == ("__debug__" : Str)) = false := by decide) (he : starEach (a :: es) X.env = (false, eval a X.env) :: starEach es X.env := by rfl) (hpl : (backTo pos (starEach es X.env)).any (·.1) = false := by rfl) : PE X (.Call (.Name x p) (a :: es) [] pos) (tM K W (x1 f As)) :=
  pew (pe_callB hc hg hm hv ha hn hdb he hpl) (many hf)
theorem m_callTy {x : Str} {T : String} {p : Pos} {r : List V → Hp → VK → Prop} {f : List MV → M MV} (hc : CallR X (.type T) r) (hf : OpN K f r) (hg : Gl X x) (hm : X.mg x = none) (hv : bootBuiltins x = some (.type T)) (ha : PA X (a :: es) (tMA K W As)) (hn : x ≠ "__name__" := by decide)
    (hdb : (x == ("__debug__" : Str)) = false := by decide) (he : starEach (a :: es) X.env = (false, eval a X.env) :: starEach es X.env := by rfl) (hpl : (backTo pos (starEach es X.env)).any (·.1) = false := by rfl) : PE X (.Call (.Name x p) (a :: es) [] pos) (tM K W (x1 f As)) :=
  pew (pe_callTy hc hg hm hv ha hn hdb he hpl) (many hf)
/-! displays -/
def mTup (xs : List MV) : M MV := fun h => if xs.length ≤ 1000 then some (.ok (.tup xs) h) else none
def mLst (b : Bool) (xs : List MV) : M MV := fun h => if xs.length ≤ 1000 then mkl b xs h else none
theorem m_tup {k : Nat} (ha : PA X es (tMA K W As)) : PE X (.Tuple es k pos) (tM K W (x1 mTup As)) :=
  pew (pe_tup ha) fun σ H Q ⟨φ, g, h, R, hs, hg, e, p⟩ => bindG hs hg e p rfl fun x h1 v φ1 H1 f1 s1 g1 r1 e1 p1 => by
    unfold mTup at e1
    split at e1
    · cases e1
      exact ⟨by rw [r1.length, sizeLine_eq]; omega, end_tup s1 r1 p1⟩
    · cases e1
theorem m_lst (l : Bool) (ha : PA X es (tMA K W As)) : PE X (.List es pos) (tM K W (x1 (mLst l) As)) :=
  pew (pe_lst ha) fun σ H Q ⟨φ, g, h, R, hs, hg, e, p⟩ => bindG hs hg e p rfl fun x h1 v φ1 H1 f1 s1 g1 r1 e1 p1 => by
    unfold mLst at e1
    split at e1
    · exact ⟨by rw [r1.length, sizeLine_eq]; omega, end_mkl s1 r1 e1 p1⟩
    · cases e1
/-! truth -/
def truM (x : MV) (h : Mh) : Option Bool := match x with
  | .non => some false
  | .bl b => some b
  | .int i => some (i != 0)
  | .str y => if y.length ≤ sizeLine then some ((y.length : Int) != 0) else none
  | .tup xs => some (!xs.isEmpty)
  | .ctup xs => some (!xs.isEmpty)
  | .tl xs => some (!xs.isEmpty)
  | .rol xs => some (!xs.isEmpty)
  | .ref n => match h[n]? with
    | some (.lst xs) => some (!xs.isEmpty)
    | some (.dK kvs) => some (!kvs.isEmpty)
    | _ => none
  | _ => none
theorem rvs_emp {φ : Ph} {H : Hp} {vs : List V} {xs : List MV} (r : Rvs K φ H vs xs) : (!xs.isEmpty) = !vs.isEmpty := by
  cases xs with
  | nil => rw [rvs_nilr r]; rfl
  | cons x xs =>
    obtain ⟨v, t, rfl, _⟩ := rvs_invr r
    rfl
theorem tru_of {φ : Ph} {h : Mh} {H : Hp} {v : V} {x : MV} {k : Bool} (s : Sim K φ h H) (r : Rv K φ H v x) (e : truM x h = some k) : TruV K v H k := by
  unfold truM at e
  split at e
  · cases e; unfold Rv at r; rw [r]; rfl
  · cases e; unfold Rv at r; rw [r]; rfl
  · cases e; unfold Rv at r; rw [r]; rfl
  · split at e
    · cases e; unfold Rv at r; rw [r]; exact ⟨by assumption, rfl⟩
    · cases e
  · rename_i xs
    cases e
    obtain ⟨a, vs, rfl, q, r⟩ := tpv_ok (x := .tup xs) rfl r
    exact .inr (.inl ⟨vs, q, rvs_emp r⟩)
  · rename_i xs
    cases e
    obtain ⟨a, vs, rfl, q, r⟩ := tpv_ok (x := .ctup xs) rfl r
    exact .inr (.inl ⟨vs, q, rvs_emp r⟩)
  · rename_i xs
    cases e
    obtain ⟨a, vs, rfl, q, r⟩ := lsv_ok (x := .tl xs) s rfl r
    exact .inl ⟨vs, q, rvs_emp r⟩
  · rename_i xs
    cases e
    obtain ⟨a, vs, rfl, q, r⟩ := lsv_ok (x := .rol xs) s rfl r
    exact .inl ⟨vs, q, rvs_emp r⟩
  · split at e
    · rename_i o
      cases e
      obtain ⟨a, u, rfl, _, e2, ro⟩ := s.ref r o
      cases u with
      | lst vs => exact .inl ⟨vs, SqL.of e2, rvs_emp ro⟩
      | _ => exact ro.elim
    · rename_i o
      cases e
      obtain ⟨a, u, rfl, _, e2, ro⟩ := s.ref r o
      cases u with
      | dK kvs => exact .inr (.inr ⟨kvs, e2, by
          have hh := congrArg List.isEmpty ro.1
          rw [List.isEmpty_map, List.isEmpty_map] at hh
          rw [hh]⟩)
      | _ => exact ro.elim
    · cases e
  · cases e
def mNot (x : MV) : M MV := fun h => (truM x h).map fun k => .ok (.bl (!k)) h
def xAnd (A B : Sg → M MV) : Sg → M MV := fun g => bd (A g) fun x h => match truM x h with
  | some true => B g h
  | some false => some (.ok x h)
  | none => none
def xOr (A B : Sg → M MV) : Sg → M MV := fun g => bd (A g) fun x h => match truM x h with
  | some true => some (.ok x h)
  | some false => B g h
  | none => none
theorem m_not (ek : X.K = K) (ha : PE X a (tM K W A)) : PE X (.UnaryOp .Not a pos) (tM K W (x1 mNot A)) := by
  subst ek
  exact pew (pe_notT ha) fun σ H Q ⟨φ, g, h, R, hs, hg, e, p⟩ => bindG hs hg e p rfl fun x h1 v φ1 H1 f1 s1 g1 r1 e1 p1 => by
    unfold mNot at e1
    cases q : truM x h1 with
    | none => rw [q] at e1; cases e1
    | some k =>
      rw [q] at e1
      cases e1
      exact ⟨k, tru_of s1 r1 q, end_pu s1 (by unfold Rv; rfl) p1⟩
theorem m_and {rest : List Expr} (ek : X.K = K) (ha : PE X a (tM K W A)) (hb : PE X (.BoolOp .And (b :: rest) pos) (tM K W B)) : PE X (.BoolOp .And (a :: b :: rest) pos) (tM K W (xAnd A B)) := by
  subst ek
  exact pew (pe_andT ha hb) fun σ H Q ⟨φ, g, h, R, hs, hg, e, p⟩ => bindG hs hg e p rfl fun x h1 v φ1 H1 f1 s1 g1 r1 e1 p1 => by
    split at e1
    · rename_i q
      exact ⟨true, tru_of s1 r1 q, by rw [if_pos rfl]; exact ⟨φ1, g, h1, R, s1, g1, e1, p1⟩⟩
    · rename_i q
      cases e1
      exact ⟨false, tru_of s1 r1 q, by rw [if_neg Bool.false_ne_true]; exact end_pu s1 r1 p1⟩
    · cases e1
theorem m_or {rest : List Expr} (ek : X.K = K) (ha : PE X a (tM K W A)) (hb : PE X (.BoolOp .Or (b :: rest) pos) (tM K W B)) : PE X (.BoolOp .Or (a :: b :: rest) pos) (tM K W (xOr A B)) := by
  subst ek
  exact pew (pe_orT ha hb) fun σ H Q ⟨φ, g, h, R, hs, hg, e, p⟩ => bindG hs hg e p rfl fun x h1 v φ1 H1 f1 s1 g1 r1 e1 p1 => by
    split at e1
    · rename_i q
      cases e1
      exact ⟨true, tru_of s1 r1 q, by rw [if_pos rfl]; exact end_pu s1 r1 p1⟩
    · rename_i q
      exact ⟨false, tru_of s1 r1 q, by rw [if_neg Bool.false_ne_true]; exact ⟨φ1, g, h1, R, s1, g1, e1, p1⟩⟩
    · cases e1
theorem m_one {op : BoolOp} (h : PE X a (tM K W A)) : PE X (.BoolOp op [a] pos) (tM K W A) := pe_one h
/-! tests -/
def tst (A : Sg → M MV) : Sg → M Bool := x1 (fun x h => (truM x h).map fun k => .ok k h) A
def tAnM (A B : Sg → M Bool) : Sg → M Bool := fun g => bd (A g) fun k => if k then B g else pu false
def tOrM (A B : Sg → M Bool) : Sg → M Bool := fun g => bd (A g) fun k => if k then pu true else B g
def tNoM (A : Sg → M Bool) : Sg → M Bool := x1 (fun k => pu (!k)) A
variable {T U : Sg → M Bool}
theorem t_tru (ek : X.K = K) (ha : PE X a (tM K W A)) (he : ∀ whole, isTrue a X.env whole = (do let v ← whole; standAt a.pos; holding [v] (truthy v))) : PT X a (tMT K W (tst A)) := by
  subst ek
  exact ptw (pt_truth ha he) fun σ H Q ⟨φ, g, h, R, hs, hg, e, p⟩ => bindG hs hg e p rfl fun x h1 v φ1 H1 f1 s1 g1 r1 e1 p1 => by
    cases q : truM x h1 with
    | none => rw [q] at e1; cases e1
    | some k =>
      rw [q] at e1
      cases e1
      exact ⟨k, tru_of s1 r1 q, p1 k φ1 H1 (Fr.refl _ _) s1 rfl⟩
theorem t_not (ha : PT X a (tMT K W T)) : PT X (.UnaryOp .Not a pos) (tMT K W (tNoM T)) :=
  ptw (pt_not ha) fun σ H Q ⟨φ, g, h, R, hs, hg, e, p⟩ => bindG hs hg e p rfl fun x h1 v φ1 H1 f1 s1 g1 r1 e1 p1 => by
    cases e1
    cases r1
    exact p1 _ φ1 H1 (Fr.refl _ _) s1 rfl
theorem and_of : ∀ σ H Q, tMT K W (tAnM T U) σ H Q → tAnd (tMT K W T) (tMT K W U) σ H Q := fun σ H Q ⟨φ, g, h, R, hs, hg, e, p⟩ => bindG hs hg e p rfl fun x h1 v φ1 H1 f1 s1 g1 r1 e1 p1 => by
  subst r1
  cases v with
  | true => exact ⟨φ1, g, h1, R, s1, g1, e1, p1⟩
  | false =>
    cases e1
    exact p1 _ φ1 H1 (Fr.refl _ _) s1 rfl
theorem or_of : ∀ σ H Q, tMT K W (tOrM T U) σ H Q → tOr (tMT K W T) (tMT K W U) σ H Q := fun σ H Q ⟨φ, g, h, R, hs, hg, e, p⟩ => bindG hs hg e p rfl fun x h1 v φ1 H1 f1 s1 g1 r1 e1 p1 => by
  subst r1
  cases v with
  | true =>
    cases e1
    exact p1 _ φ1 H1 (Fr.refl _ _) s1 rfl
  | false => exact ⟨φ1, g, h1, R, s1, g1, e1, p1⟩
theorem pww {X : Cx} {e : Expr} {t t' : TT} (h : PW X e t) (i : ∀ σ H Q, t' σ H Q → t σ H Q) : PW X e t' := ⟨fun whole pins s σ H Q I q => h.run whole pins s σ H Q I (i σ H Q q)⟩
def xIf (T : Sg → M Bool) (A B : Sg → M MV) : Sg → M MV := fun g => bd (T g) fun k => if k then A g else B g
theorem m_if (ht : PT X c (tMT K W T)) (ha : PE X a (tM K W A)) (hb : PE X b (tM K W B)) : PE X (.IfExp c a b pos) (tM K W (xIf T A B)) :=
  pew (pe_ifExp ht ha hb) fun σ H Q ⟨φ, g, h, R, hs, hg, e, p⟩ => bindG hs hg e p rfl fun x h1 v φ1 H1 f1 s1 g1 r1 e1 p1 => by
    subst r1
    cases v with
    | true => exact ⟨φ1, g, h1, R, s1, g1, e1, p1⟩
    | false => exact ⟨φ1, g, h1, R, s1, g1, e1, p1⟩
end
end Mi
/-! Mi: operations -/
namespace Mi
open PySem PySem.Spec PyProof.Rows L2 Ob StX

/-! ### data -/
def mapO {α β : Type} (f : α → Option β) : List α → Option (List β)
  | [] => some []
  | x :: xs => match f x, mapO f xs with
    | some y, some ys => some (y :: ys)
    | _, _ => none
def dt (h : Mh) : Nat → MV → Option PyData
  | 0, _ => none
  | n + 1, x => match x with
    | .non => some .none
    | .bl b => some (.bool b)
    | .int i => some (.int i)
    | .str s => if PyData.strOk s then some (.str s) else none
    | .tup xs => (mapO (dt h n) xs).map .tuple
    | .ctup xs => (mapO (dt h n) xs).map .tuple
    | .tl xs => (mapO (dt h n) xs).map .list
    | .rol xs => (mapO (dt h n) xs).map .list
    | .ref k => match h[k]? with
      | some (.lst xs) => (mapO (dt h n) xs).map .list
      | _ => none
    | _ => none
theorem mapO_ok {K : PySem.W.Frag} {φ : Ph} {H : Hp} {f : MV → Option PyData} {n : Nat} (hf : ∀ v x d, Rv K φ H v x → f x = some d → Dp K H v d ∧ d.canLay0 = true ∧ d.depth ≤ n) :
    ∀ {vs : List V} {xs : List MV} {ds : List PyData}, Rvs K φ H vs xs → mapO f xs = some ds → DpAll K H vs ds ∧ PyData.canLayAll0 ds = true ∧ PyData.depthAll ds ≤ n
  | vs, [], ds, r, e => by
    cases e
    rw [rvs_nilr r]
    exact ⟨.nil, rfl, by simp [PyData.depthAll]⟩
  | vs, x :: xs, ds, r, e => by
    obtain ⟨v, t, rfl, a, b⟩ := rvs_invr r
    unfold mapO at e
    split at e
    · rename_i y ys e1 e2
      cases e
      obtain ⟨h1, h2, h3⟩ := hf v x y a e1
      obtain ⟨g1, g2, g3⟩ := mapO_ok hf b e2
      refine ⟨.cons h1 g1, ?_, ?_⟩
      · show (y.canLay0 && PyData.canLayAll0 ys) = true
        rw [h2, g2]; rfl
      · show max y.depth (PyData.depthAll ys) ≤ n
        omega
    · cases e
theorem dt_ok {K : PySem.W.Frag} {φ : Ph} {h : Mh} {H : Hp} (s : Sim K φ h H) : ∀ (n : Nat) (v : V) (x : MV) (d : PyData), Rv K φ H v x → dt h n x = some d → Dp K H v d ∧ d.canLay0 = true ∧ d.depth ≤ n
  | 0, v, x, d, r, e => by cases e
  | n + 1, v, x, d, r, e => by
    have lst : ∀ {a : Addr} {vs : List V} {xs : List MV}, SqL K H a vs → Rvs K φ H vs xs → (mapO (dt h n) xs).map PyData.list = some d → Dp K H (.ref a) d ∧ d.canLay0 = true ∧ d.depth ≤ n + 1 := fun {a vs xs} q rs e => by
      cases z : mapO (dt h n) xs with
      | none => rw [z] at e; cases e
      | some ds =>
        rw [z] at e
        cases e
        obtain ⟨g1, g2, g3⟩ := mapO_ok (dt_ok s n) rs z
        exact ⟨.lst q g1, g2, by show PyData.depthAll ds + 1 ≤ n + 1; omega⟩
    have tup : ∀ {a : Addr} {vs : List V} {xs : List MV}, SqT K H a vs → Rvs K φ H vs xs → (mapO (dt h n) xs).map PyData.tuple = some d → Dp K H (.ref a) d ∧ d.canLay0 = true ∧ d.depth ≤ n + 1 := fun {a vs xs} q rs e => by
      cases z : mapO (dt h n) xs with
      | none => rw [z] at e; cases e
      | some ds =>
        rw [z] at e
        cases e
        obtain ⟨g1, g2, g3⟩ := mapO_ok (dt_ok s n) rs z
        exact ⟨.tup q g1, g2, by show PyData.depthAll ds + 1 ≤ n + 1; omega⟩
    unfold dt at e
    split at e
    · cases e; unfold Rv at r; rw [r]; exact ⟨.non, rfl, by simp [PyData.depth]⟩
    · cases e; unfold Rv at r; rw [r]; exact ⟨.bl _, rfl, by simp [PyData.depth]⟩
    · cases e; unfold Rv at r; rw [r]; exact ⟨.int _, rfl, by simp [PyData.depth]⟩
    · split at e
      · rename_i hs
        cases e
        unfold Rv at r
        rw [r]
        exact ⟨.str _, hs, by simp [PyData.depth]⟩
      · cases e
    · rename_i xs
      obtain ⟨a, vs, rfl, q, r⟩ := tpv_ok (x := .tup xs) rfl r
      exact tup q r e
    · rename_i xs
      obtain ⟨a, vs, rfl, q, r⟩ := tpv_ok (x := .ctup xs) rfl r
      exact tup q r e
    · rename_i xs
      obtain ⟨a, vs, rfl, q, r⟩ := lsv_ok (x := .tl xs) s rfl r
      exact lst q r e
    · rename_i xs
      obtain ⟨a, vs, rfl, q, r⟩ := lsv_ok (x := .rol xs) s rfl r
      exact lst q r e
    · rename_i k
      cases z : h[k]? with
      | none => rw [z] at e; cases e
      | some o =>
        rw [z] at e
        cases o with
        | lst xs =>
          obtain ⟨a, vs, rfl, q, r⟩ := lsv_ok (x := .ref k) (xs := xs) s (by simp [lsv, z]) r
          exact lst q r e
        | _ => cases e
    · cases e
theorem dt_sh {K : PySem.W.Frag} {φ : Ph} {h : Mh} {H : Hp} {v : V} {x : MV} {d : PyData} (s : Sim K φ h H) (r : Rv K φ H v x) (e : dt h 60 x = some d) : Dp K H v d ∧ SeqAt.shaped d = true := by
  obtain ⟨a, b, c⟩ := dt_ok s 60 v x d r e
  refine ⟨a, ?_⟩
  unfold SeqAt.shaped
  rw [b, decide_eq_true (show d.depth ≤ 64 by omega)]
  rfl
def dt2 (f : PyData → PyData → Bool) (x y : MV) : M MV := fun h => match dt h 60 x, dt h 60 y with
  | some d, some e => some (.ok (.bl (f d e)) h)
  | _, _ => none
def mEq : MV → MV → M MV := dt2 PyData.eqv
def mNe : MV → MV → M MV := dt2 fun d e => !PyData.eqv d e
section
variable {K : PySem.W.Frag}
theorem bl_end {W : WX} {σ : L2.St} {φ : Ph} {h : Mh} {H : Hp} {Q : VK} {b : Bool} (s : Sim K φ h H) (p : Pg (Rv K) K W σ φ H Q (.ok (.bl b) h)) : Q (.bl b) H := end_pu s (by unfold Rv; rfl) p
theorem int_end {W : WX} {σ : L2.St} {φ : Ph} {h : Mh} {H : Hp} {Q : VK} {b : Int} (s : Sim K φ h H) (p : Pg (Rv K) K W σ φ H Q (.ok (.int b) h)) : Q (.int b) H := end_pu s (by unfold Rv; rfl) p
theorem str_end {W : WX} {σ : L2.St} {φ : Ph} {h : Mh} {H : Hp} {Q : VK} {b : Str} (s : Sim K φ h H) (p : Pg (Rv K) K W σ φ H Q (.ok (.str b) h)) : Q (.str b) H := end_pu s (by unfold Rv; rfl) p
theorem o_eq : Op2 K mEq (rEqD K) := fun {W σ φ h H v w x y R Q} s r1 r2 e p => by
  unfold mEq dt2 at e
  split at e
  · rename_i d d' e1 e2
    cases e
    obtain ⟨a1, a2⟩ := dt_sh s r1 e1
    obtain ⟨b1, b2⟩ := dt_sh s r2 e2
    exact ⟨d, d', a1, b1, a2, b2, bl_end s p⟩
  · cases e
theorem o_ne : Op2 K mNe (rNeD K) := fun {W σ φ h H v w x y R Q} s r1 r2 e p => by
  unfold mNe dt2 at e
  split at e
  · rename_i d d' e1 e2
    cases e
    obtain ⟨a1, a2⟩ := dt_sh s r1 e1
    obtain ⟨b1, b2⟩ := dt_sh s r2 e2
    exact ⟨d, d', a1, b1, a2, b2, bl_end s p⟩
  · cases e
/-! ### + - * // % ** -/
def rAddI : R2 := rI0 fun i j => .int (i + j)
def rAddS : R2 := fun x y H Q => ∃ i j, x = .str i ∧ y = .str j ∧ i.length + j.length ≤ sizeLine ∧ Q (.str (i ++ j)) H
/-- a tuple that was there, or a new one -/
def tcat (x y : MV) (a c : List MV) : MV := if a.isEmpty then y else if c.isEmpty then x else .tup (a ++ c)
theorem tcat_tup (a c : List MV) : tcat (.tup a) (.tup c) a c = .tup (a ++ c) := by
  cases a with
  | nil => rfl
  | cons z a =>
    cases c with
    | nil => simp [tcat]
    | cons w c => simp [tcat]
def mAdd (b : Bool) (x y : MV) : M MV := fun h => match x, y with
  | .int i, .int j => some (.ok (.int (i + j)) h)
  | .str a, .str c => if a.length + c.length ≤ sizeLine then some (.ok (.str (a ++ c)) h) else none
  | x, y => match tpv x, tpv y with
    | some a, some c => if a.length + c.length ≤ sizeLine then some (.ok (tcat x y a c) h) else none
    | _, _ => match lsw x h, lsw y h with
      | some a, some c => if a.length + c.length ≤ sizeLine then mkl b (a ++ c) h else none
      | _, _ => none
theorem o_add (b : Bool) : Op2 K (mAdd b) (or2 (or2 rAddI rAddS) (or2 (rCatA K) rCat)) := fun {W σ φ h H v w x y R Q} s r1 r2 e p => by
  unfold mAdd at e
  split at e
  · cases e
    unfold Rv at r1 r2
    exact .inl (.inl ⟨_, _, r1, r2, int_end s p⟩)
  · split at e
    · cases e
      unfold Rv at r1 r2
      exact .inl (.inr ⟨_, _, r1, r2, by assumption, str_end s p⟩)
    · cases e
  · split at e
    · rename_i xs ys e1 e2
      obtain ⟨a, vs, rfl, qa, ra⟩ := tpv_ok e1 r1
      obtain ⟨c, ws, rfl, qc, rc⟩ := tpv_ok e2 r2
      split at e
      · rename_i hz
        cases e
        refine .inr (.inl ⟨a, c, vs, ws, rfl, rfl, qa, qc, by rw [ra.length, rc.length]; exact hz, fun hv => ?_, fun hv hw => ?_, fun hv hw q hq => ?_⟩)
        · subst hv
          have h0 : xs = [] := List.eq_nil_of_length_eq_zero (by rw [← ra.length]; rfl)
          subst h0
          exact end_pu s r2 p
        · subst hw
          have h0 : ys = [] := List.eq_nil_of_length_eq_zero (by rw [← rc.length]; rfl)
          subst h0
          have hx : tcat x y xs [] = x := by
            cases xs with
            | nil => exact absurd (List.eq_nil_of_length_eq_zero ra.length) hv
            | cons z xs => rfl
          rw [hx] at p
          exact end_pu s r1 p
        · have hx : tcat x y xs ys = .tup (xs ++ ys) := by
            cases xs with
            | nil => exact absurd (List.eq_nil_of_length_eq_zero ra.length) hv
            | cons z xs =>
              cases ys with
              | nil => exact absurd (List.eq_nil_of_length_eq_zero rc.length) hw
              | cons z2 ys => rfl
          rw [hx] at p
          exact end_tup s (ra.app rc) p q hq
      · cases e
    · split at e
      · rename_i xs ys e1 e2
        obtain ⟨a, vs, rfl, qa, ra⟩ := lsw_ok s e1 r1
        obtain ⟨c, ws, rfl, qc, rc⟩ := lsw_ok s e2 r2
        split at e
        · rename_i hz
          exact .inr (.inr ⟨a, c, vs, ws, rfl, rfl, qa, qc, by rw [ra.length, rc.length]; exact hz, end_mkl s (ra.app rc) e p⟩)
        · cases e
      · cases e
def mSub (x y : MV) : M MV := fun h => match x, y with
  | .int i, .int j => some (.ok (.int (i - j)) h)
  | _, _ => none
theorem o_sub : Op2 K mSub (rI0 fun i j => .int (i - j)) := fun {W σ φ h H v w x y R Q} s r1 r2 e p => by
  unfold mSub at e
  split at e
  · cases e
    unfold Rv at r1 r2
    exact ⟨_, _, r1, r2, int_end s p⟩
  · cases e
def CMulA (i j : Int) : Prop := i.natAbs.log2 + j.natAbs.log2 < 1000000 ∨ ((-(2 ^ 64) < i ∧ i < 2 ^ 64) ∨ (-(2 ^ 64) < j ∧ j < 2 ^ 64))
instance (i j : Int) : Decidable (CMulA i j) := inferInstanceAs (Decidable (_ ∨ _))
theorem op_mulA {X : Cx} : OpR X (binaryOp .Mult) (rI CMulA fun i j => .int (i * j)) := by
  intro pins s σ H x y v u Q I rx ry h
  obtain ⟨i, j, e1, e2, c, q⟩ := h
  rcases c with c | c
  · exact op_mulW pins s σ H x y v u Q I rx ry ⟨i, j, e1, e2, c, q⟩
  · exact op_mul pins s σ H x y v u Q I rx ry ⟨i, j, e1, e2, c, q⟩
def mMul (b : Bool) (x y : MV) : M MV := fun h => match x, y with
  | .int i, .int j => if CMulA i j then some (.ok (.int (i * j)) h) else none
  | .str z, .int n => if -(2 ^ 63 : Int) ≤ n ∧ (n ≤ 1000 ∧ z.length ≤ 10000 ∨ n ≤ 5000 ∧ z.length ≤ 3000) then some (.ok (.str (Txt.mul z n)) h) else none
  | .tup xs, .int n => if xs.isEmpty = false ∧ 2 ≤ n ∧ n ≤ 1000 ∧ xs.length ≤ 1000 then some (.ok (.tup (List.replicate n.toNat xs).flatten) h) else none
  | x, .int n => match lsw x h with
    | some xs => if -(2 ^ 63) ≤ n ∧ n < 2 ^ 63 ∧ xs.length * n.toNat ≤ sizeLine then mkl b (List.replicate n.toNat xs).flatten h else none
    | none => none
  | _, _ => none
def rMulS : R2 := fun x y H Q => ∃ z n, x = .str z ∧ y = .int n ∧ -(2 ^ 63 : Int) ≤ n ∧ (n ≤ 1000 ∧ z.length ≤ 10000 ∨ n ≤ 5000 ∧ z.length ≤ 3000) ∧ Q (.str (Txt.mul z n)) H
theorem op_mulStr {X : Cx} : OpR X (binaryOp .Mult) rMulS := by
  intro pins s σ H x y v u Q I rx ry h
  obtain ⟨z, n, rfl, rfl, h1, hc, q⟩ := h
  obtain ⟨t, rfl⟩ := rx
  obtain ⟨t', rfl⟩ := ry
  rcases hc with ⟨h2, h3⟩ | ⟨h2, h3⟩
  · exact SB.mul (mulOk_of 10000 1000 h3 h2 h1 (by decide) (by decide)) fun t' k => ⟨.str (Txt.mul z n), H, I.tok _, ⟨_, rfl⟩, q⟩
  exact SB.mul (mulOk_of 3000 5000 h3 h2 h1 (by decide) (by decide)) fun t' k => ⟨.str (Txt.mul z n), H, I.tok _, ⟨_, rfl⟩, q⟩
theorem o_mul (b : Bool) : Op2 K (mMul b) (or2 (or2 (rI CMulA fun i j => .int (i * j)) rMulS) (or2 (rRepT K) rRep)) := fun {W σ φ h H v w x y R Q} s r1 r2 e p => by
  unfold mMul at e
  split at e
  · split at e
    · cases e
      unfold Rv at r1 r2
      exact .inl (.inl ⟨_, _, r1, r2, by assumption, int_end s p⟩)
    · cases e
  · split at e
    · rename_i hc
      cases e
      unfold Rv at r1 r2
      exact .inl (.inr ⟨_, _, r1, r2, hc.1, hc.2, str_end s p⟩)
    · cases e
  · rename_i xs n
    split at e
    · rename_i hc
      obtain ⟨c1, c2, c3, c4⟩ := hc
      cases e
      obtain ⟨a, vs, rfl, qa, ra⟩ := tpv_ok (x := .tup xs) rfl r1
      unfold Rv at r2
      refine .inr (.inl ⟨a, n, vs, rfl, r2, qa, fun z => ?_, c2, c3, by rw [ra.length]; exact c4, end_tup s (ra.flat _) p⟩)
      subst z
      have h0 : xs = [] := List.eq_nil_of_length_eq_zero (by rw [← ra.length]; rfl)
      subst h0
      cases c1
    · cases e
  · split at e
    · rename_i xs e1
      split at e
      · rename_i hc
        obtain ⟨a, vs, rfl, qa, ra⟩ := lsw_ok s e1 r1
        unfold Rv at r2
        exact .inr (.inr ⟨a, _, vs, rfl, r2, qa, hc.1, hc.2.1, by rw [ra.length]; exact hc.2.2, end_mkl s (ra.flat _) e p⟩)
      · cases e
    · cases e
  · cases e
def mFdv (x y : MV) : M MV := fun h => match x, y with
  | .int i, .int j => if 0 < j ∧ j.natAbs.log2 < 9000 then some (.ok (.int (i / j)) h) else none
  | _, _ => none
theorem o_fdv : Op2 K mFdv (rI CDivW fun i j => .int (i / j)) := fun {W σ φ h H v w x y R Q} s r1 r2 e p => by
  unfold mFdv at e
  split at e
  · split at e
    · cases e
      unfold Rv at r1 r2
      exact ⟨_, _, r1, r2, by assumption, int_end s p⟩
    · cases e
  · cases e
def mMod (x y : MV) : M MV := fun h => match x, y with
  | .int i, .int j => if 0 < j then some (.ok (.int (i % j)) h) else none
  | _, _ => none
theorem o_mod : Op2 K mMod (rI (fun _ j => 0 < j) fun i j => .int (i % j)) := fun {W σ φ h H v w x y R Q} s r1 r2 e p => by
  unfold mMod at e
  split at e
  · split at e
    · cases e
      unfold Rv at r1 r2
      exact ⟨_, _, r1, r2, by assumption, int_end s p⟩
    · cases e
  · cases e
def mPow (x y : MV) : M MV := fun h => match x, y with
  | .int i, .int j => if 0 ≤ j ∧ j ≤ 1000000 ∧ i.natAbs < 2 ^ 64 then some (.ok (.int (i ^ j.toNat)) h) else none
  | _, _ => none
theorem o_pow : Op2 K mPow (rI CPow fun i j => .int (i ^ j.toNat)) := fun {W σ φ h H v w x y R Q} s r1 r2 e p => by
  unfold mPow at e
  split at e
  · split at e
    · cases e
      unfold Rv at r1 r2
      exact ⟨_, _, r1, r2, by assumption, int_end s p⟩
    · cases e
  · cases e
def mNeg (x : MV) : M MV := fun h => match x with
  | .int i => some (.ok (.int (-i)) h)
  | _ => none
theorem o_neg : Op1 K mNeg (rU fun i => .int (-i)) := fun {W σ φ h H v x R Q} s r1 e p => by
  unfold mNeg at e
  split at e
  · cases e
    unfold Rv at r1
    exact ⟨_, r1, int_end s p⟩
  · cases e
/-! ### < <= > >= -/
def mOrd (f : Int → Int → Bool) (x y : MV) : M MV := fun h => match x, y with
  | .int i, .int j => some (.ok (.bl (f i j)) h)
  | _, _ => none
theorem o_ord {f : Int → Int → Bool} : Op2 K (mOrd f) (rI0 fun i j => .bl (f i j)) := fun {W σ φ h H v w x y R Q} s r1 r2 e p => by
  unfold mOrd at e
  split at e
  · cases e
    unfold Rv at r1 r2
    exact ⟨_, _, r1, r2, bl_end s p⟩
  · cases e
abbrev mLt := mOrd fun i j => decide (i < j)
abbrev mLe := mOrd fun i j => decide (i ≤ j)
abbrev mGt := mOrd fun i j => decide (j < i)
abbrev mGe := mOrd fun i j => decide (j ≤ i)
/-! ### is -/
def mIsN (x y : MV) : M MV := fun h => match x, y with
  | .non, .non => some (.ok (.bl true) h)
  | .raw _, _ => none
  | _, .non => some (.ok (.bl false) h)
  | _, _ => none
def mNotN (x y : MV) : M MV := fun h => match x, y with
  | .non, .non => some (.ok (.bl false) h)
  | .raw _, _ => none
  | _, .non => some (.ok (.bl true) h)
  | _, _ => none
theorem rv_non {φ : Ph} {H : Hp} {v : V} {x : MV} (r : Rv K φ H v x) (h1 : x ≠ .non) (h2 : ∀ u, x ≠ .raw u) : v ≠ .non := by
  rintro rfl
  cases x <;> unfold Rv at r
  · exact h1 rfl
  · cases r
  · cases r
  · cases r
  · obtain ⟨_, _, e, _⟩ := r; cases e
  · obtain ⟨_, _, e, _⟩ := r; cases e
  · obtain ⟨_, _, e, _⟩ := r; cases e
  · obtain ⟨_, _, e, _⟩ := r; cases e
  · obtain ⟨_, _, e, _⟩ := r; cases e
  · obtain ⟨_, e, _⟩ := r; cases e
  · exact h2 _ rfl
  · obtain ⟨e, _⟩ := r; cases e
theorem o_isN : Op2 K mIsN rIsN := fun {W σ φ h H v w x y R Q} s r1 r2 e p => by
  unfold mIsN at e
  split at e
  · cases e
    unfold Rv at r1 r2
    subst r1 r2
    exact ⟨rfl, bl_end s p⟩
  · cases e
  · rename_i n1 n2
    cases e
    unfold Rv at r2
    subst r2
    refine ⟨rfl, ?_⟩
    rw [decide_eq_false (rv_non r1 (fun z => by first | exact n1 z | exact n1 z rfl) n2)]
    exact bl_end s p
  · cases e
theorem o_notN : Op2 K mNotN rNotN := fun {W σ φ h H v w x y R Q} s r1 r2 e p => by
  unfold mNotN at e
  split at e
  · cases e
    unfold Rv at r1 r2
    subst r1 r2
    exact ⟨rfl, bl_end s p⟩
  · cases e
  · rename_i n1 n2
    cases e
    unfold Rv at r2
    subst r2
    refine ⟨rfl, ?_⟩
    rw [decide_eq_false (rv_non r1 (fun z => by first | exact n1 z | exact n1 z rfl) n2)]
    exact bl_end s p
  · cases e
def mIsB (n : Bool) (x y : MV) : M MV := fun h => match x, y with
  | .bl a, .bl b => some (.ok (.bl (if n then !decide (a = b) else decide (a = b))) h)
  | _, _ => none
theorem o_isB : Op2 K (mIsB false) (fun x y H Q => ∃ a b, x = .bl a ∧ y = .bl b ∧ Q (.bl (decide (a = b))) H) := fun {W σ φ h H v w x y R Q} s r1 r2 e p => by
  unfold mIsB at e
  split at e
  · cases e
    unfold Rv at r1 r2
    exact ⟨_, _, r1, r2, bl_end s p⟩
  · cases e
theorem o_isnotB : Op2 K (mIsB true) (fun x y H Q => ∃ a b, x = .bl a ∧ y = .bl b ∧ Q (.bl (!decide (a = b))) H) := fun {W σ φ h H v w x y R Q} s r1 r2 e p => by
  unfold mIsB at e
  split at e
  · cases e
    unfold Rv at r1 r2
    exact ⟨_, _, r1, r2, bl_end s p⟩
  · cases e
/-! ### in -/
def flatM : MV → Bool
  | .non => true
  | .bl _ => true
  | .int _ => true
  | .str _ => true
  | _ => false
def toV : MV → V
  | .non => .non
  | .bl b => .bl b
  | .int i => .int i
  | .str s => .str s
  | _ => .ty ""
theorem flat_ok {φ : Ph} {H : Hp} {v : V} {x : MV} (f : flatM x = true) (r : Rv K φ H v x) : v = toV x ∧ flatV v = true := by
  cases x <;> unfold flatM at f <;> first | exact absurd f Bool.false_ne_true | (unfold Rv at r; subst r; exact ⟨rfl, rfl⟩)
theorem flats_ok {φ : Ph} {H : Hp} : ∀ {vs : List V} {xs : List MV}, xs.all flatM = true → Rvs K φ H vs xs → vs = xs.map toV ∧ vs.all flatV = true
  | vs, [], _, r => by rw [rvs_nilr r]; exact ⟨rfl, rfl⟩
  | vs, x :: xs, f, r => by
    obtain ⟨v, t, rfl, a, b⟩ := rvs_invr r
    rw [List.all_cons, Bool.and_eq_true] at f
    obtain ⟨e1, e2⟩ := flat_ok f.1 a
    obtain ⟨g1, g2⟩ := flats_ok f.2 b
    exact ⟨by rw [e1, g1]; rfl, by rw [List.all_cons, e2, g2]; rfl⟩
/-- x in a list, a tuple of flat things; a sign in a text; n: not in -/
def mIn (n : Bool) (x y : MV) : M MV := fun h => match x, y with
  | .str a, .str z => match a.cps.toList with
    | [c] => some (.ok (.bl (if n then !decide (c ∈ z.cps.toList) else decide (c ∈ z.cps.toList))) h)
    | _ => some (.ok (.bl (if n then (Builtin.Str.occurrences z a 0 z.length 1).isEmpty else !(Builtin.Str.occurrences z a 0 z.length 1).isEmpty)) h)
  | x, y => match (match tpv y with
      | some ys => some ys
      | none => lsv y h) with
    | some ys => if flatM x = true ∧ ys.all flatM = true then some (.ok (.bl (if n then !inV (toV x) (ys.map toV) else inV (toV x) (ys.map toV))) h) else none
    | none => none
def rInT : R2 := fun x y H Q => ∃ i j, x = .str i ∧ y = .str j ∧ Q (.bl (!(Builtin.Str.occurrences j i 0 j.length 1).isEmpty)) H
def rNotInT : R2 := fun x y H Q => ∃ i j, x = .str i ∧ y = .str j ∧ Q (.bl (!(!(Builtin.Str.occurrences j i 0 j.length 1).isEmpty))) H
theorem one_sign {a : Str} {c : Nat} (e : a.cps.toList = [c]) : a = ⟨#[c]⟩ := by
  obtain ⟨l⟩ := a
  obtain ⟨l⟩ := l
  cases e
  rfl
theorem o_in : Op2 K (mIn false) (or2 (or2 rInS rInT) (rIn K false)) := fun {W σ φ h H v w x y R Q} s r1 r2 e p => by
  unfold mIn at e
  split at e
  · unfold Rv at r1 r2
    split at e
    · rename_i c e1
      cases e
      exact .inl (.inl ⟨c, _, by rw [r1, one_sign e1], r2, bl_end s p⟩)
    · cases e
      exact .inl (.inr ⟨_, _, r1, r2, bl_end s p⟩)
  · split at e
    · rename_i ys e1
      split at e
      · rename_i hc
        cases e
        have hy : ∃ a ws, w = .ref a ∧ (SqL K H a ws ∨ SqT K H a ws) ∧ Rvs K φ H ws ys := by
          split at e1
          · rename_i e2
            cases e1
            obtain ⟨a, ws, e3, q, r⟩ := tpv_ok e2 r2
            exact ⟨a, ws, e3, .inr q, r⟩
          · obtain ⟨a, ws, e3, q, r⟩ := lsv_ok s e1 r2
            exact ⟨a, ws, e3, .inl q, r⟩
        obtain ⟨a, ws, rfl, q, r⟩ := hy
        obtain ⟨f1, f2⟩ := flat_ok hc.1 r1
        obtain ⟨g1, g2⟩ := flats_ok hc.2 r
        refine .inr ⟨a, ws, rfl, q, f2, g2, ?_⟩
        rw [f1, g1]
        exact bl_end s p
      · cases e
    · cases e
theorem o_notIn : Op2 K (mIn true) (or2 (or2 rNotInS rNotInT) (rIn K true)) := fun {W σ φ h H v w x y R Q} s r1 r2 e p => by
  unfold mIn at e
  split at e
  · unfold Rv at r1 r2
    split at e
    · rename_i c e1
      cases e
      exact .inl (.inl ⟨c, _, by rw [r1, one_sign e1], r2, bl_end s p⟩)
    · cases e
      exact .inl (.inr ⟨_, _, r1, r2, by rw [Bool.not_not]; exact bl_end s p⟩)
  · split at e
    · rename_i ys e1
      split at e
      · rename_i hc
        cases e
        have hy : ∃ a ws, w = .ref a ∧ (SqL K H a ws ∨ SqT K H a ws) ∧ Rvs K φ H ws ys := by
          split at e1
          · rename_i e2
            cases e1
            obtain ⟨a, ws, e3, q, r⟩ := tpv_ok e2 r2
            exact ⟨a, ws, e3, .inr q, r⟩
          · obtain ⟨a, ws, e3, q, r⟩ := lsv_ok s e1 r2
            exact ⟨a, ws, e3, .inl q, r⟩
        obtain ⟨a, ws, rfl, q, r⟩ := hy
        obtain ⟨f1, f2⟩ := flat_ok hc.1 r1
        obtain ⟨g1, g2⟩ := flats_ok hc.2 r
        refine .inr ⟨a, ws, rfl, q, f2, g2, ?_⟩
        rw [f1, g1]
        exact bl_end s p
      · cases e
    · cases e
end
end Mi
/-! Mi: subscripts, slices, built-ins, methods -/
namespace Mi
open PySem PySem.Spec PyProof.Rows L2 Ob StX
section
variable {K : PySem.W.Frag}
/-! ### a[i] -/
def mIx (x y : MV) : M MV := fun h => match y with
  | .int i => match x with
    | .str z => if z.length ≤ sizeLine then (atI z.cps.toList i).map fun c => .ok (.str ⟨#[c]⟩) h else none
    | x => match tpv x with
      | some xs => (atI xs i).map fun v => .ok v h
      | none => (lsv x h).bind fun xs => (atI xs i).map fun v => .ok v h
  | _ => none
theorem ixN_at {α β : Type} {xs : List α} {ys : List β} {i : Int} {y : β} (hl : xs.length = ys.length) (e : atI ys i = some y) : ∃ j : Nat, ys[j]? = some y ∧ ∀ x, xs[j]? = some x → atI xs i = some x := by
  unfold atI at e
  cases q : ixN ys.length i with
  | none => rw [q] at e; cases e
  | some j =>
    rw [q] at e
    refine ⟨j, e, fun x hx => ?_⟩
    unfold atI
    rw [hl, q]
    exact hx
theorem o_ix : Op2 K mIx (fun x y H Q => rIxS x y H Q ∨ (rIxT K x y H Q ∨ rIxL K x y H Q)) := fun {W σ φ h H v w x y R Q} s r1 r2 e p => by
  unfold mIx at e
  split at e
  · rename_i i
    unfold Rv at r2
    split at e
    · rename_i z
      unfold Rv at r1
      split at e
      · rename_i hz
        cases q : atI z.cps.toList i with
        | none => rw [q] at e; cases e
        | some c =>
          rw [q] at e
          cases e
          exact .inl ⟨z, i, c, r1, r2, hz, q, str_end s p⟩
      · cases e
    · split at e
      · rename_i xs e1
        obtain ⟨a, vs, rfl, qa, ra⟩ := tpv_ok e1 r1
        cases q : atI xs i with
        | none => rw [q] at e; cases e
        | some z =>
          rw [q] at e
          cases e
          obtain ⟨j, e2, e3⟩ := ixN_at ra.length q
          obtain ⟨u, e4, e5⟩ := ra.get e2
          exact .inr (.inl ⟨a, vs, i, u, rfl, r2, qa, e3 _ e4, end_pu s e5 p⟩)
      · cases q0 : lsv x h with
        | none => rw [q0] at e; cases e
        | some xs =>
          rw [q0] at e
          obtain ⟨a, vs, rfl, qa, ra⟩ := lsv_ok s q0 r1
          change ((atI xs i).map fun v => Rs.ok v h) = some R at e
          cases q : atI xs i with
          | none => rw [q] at e; cases e
          | some z =>
            rw [q] at e
            cases e
            obtain ⟨j, e2, e3⟩ := ixN_at ra.length q
            obtain ⟨u, e4, e5⟩ := ra.get e2
            exact .inr (.inr ⟨a, vs, i, u, rfl, r2, qa, e3 _ e4, end_pu s e5 p⟩)
  · cases e
/-! d[k] -/
def dgetM (x y : MV) (h : Mh) : Option (Option MV) := match x with
  | .td ks xs => (keyOf y).map fun k => look (ks.zip xs) k
  | .ref n => match h[n]? with
    | some (.dK kvs) => (keyOf y).map fun k => look kvs k
    | some (.dT kvs) => match y with
      | .tup ys => (keysOf ys).map fun k => look kvs k
      | _ => none
    | _ => none
  | _ => none
theorem zip_fst : ∀ {α β : Type} {ks : List α} {vs : List β}, ks.length = vs.length → (ks.zip vs).map (·.1) = ks
  | _, _, [], [], _ => rfl
  | _, _, k :: ks, v :: vs, e => by
    have e' : ks.length = vs.length := by simpa using e
    show k :: (ks.zip vs).map (·.1) = k :: ks
    rw [zip_fst e']
theorem zip_snd : ∀ {α β : Type} {ks : List α} {vs : List β}, ks.length = vs.length → (ks.zip vs).map (·.2) = vs
  | _, _, [], [], _ => rfl
  | _, _, k :: ks, v :: vs, e => by
    have e' : ks.length = vs.length := by simpa using e
    show v :: (ks.zip vs).map (·.2) = v :: vs
    rw [zip_snd e']
theorem dget_ok {φ : Ph} {h : Mh} {H : Hp} {v w : V} {x y : MV} {o : Option MV} (s : Sim K φ h H) (r1 : Rv K φ H v x) (r2 : Rv K φ H w y) (e : dgetM x y h = some o) :
    ∃ a u, v = .ref a ∧ DGet H a w u ∧ (o = none → u = none) ∧ (∀ z, o = some z → ∃ t, u = some t ∧ Rv K φ H t z) := by
  unfold dgetM at e
  split at e
  · rename_i ks xs
    cases q : keyOf y with
    | none => rw [q] at e; cases e
    | some k =>
      rw [q] at e
      cases e
      unfold Rv at r1
      obtain ⟨a, vs, rfl, hd, _, hl, rs⟩ := r1
      have e1 := keyOf_ok q r2
      subst e1
      have hl2 : ks.length = xs.length := by rw [hl, rs.length]
      obtain ⟨f1, f2⟩ := look_ok (k := k) (kvs := ks.zip vs) (ms := ks.zip xs) (by rw [zip_fst hl, zip_fst hl2]) (by rw [zip_snd hl, zip_snd hl2]; exact rs)
      exact ⟨a, _, rfl, DGet.k hd, f1, f2⟩
  · split at e
    · rename_i o1
      cases q : keyOf y with
      | none => rw [q] at e; cases e
      | some k =>
        rw [q] at e
        cases e
        obtain ⟨a, u, rfl, _, e2, ro⟩ := s.ref r1 o1
        have e1 := keyOf_ok q r2
        subst e1
        cases u with
        | dK kvs =>
          obtain ⟨f1, f2⟩ := look_ok (k := k) ro.1 ro.2
          exact ⟨a, _, rfl, DGet.k e2, f1, f2⟩
        | _ => exact ro.elim
    · rename_i o1
      split at e
      · rename_i ys
        cases q : keysOf ys with
        | none => rw [q] at e; cases e
        | some k =>
          rw [q] at e
          cases e
          obtain ⟨a, u, rfl, _, e2, ro⟩ := s.ref r1 o1
          unfold Rv at r2
          obtain ⟨b, ws, rfl, hb, rs⟩ := r2
          have e1 := keysOf_ok q rs
          subst e1
          cases u with
          | dT kvs =>
            obtain ⟨f1, f2⟩ := look_ok (k := k) ro.1 ro.2
            exact ⟨a, _, rfl, DGet.t e2 hb, f1, f2⟩
          | _ => exact ro.elim
      · cases e
    · cases e
  · cases e
def mDget (x y : MV) : M MV := fun h => match dgetM x y h with
  | some (some v) => some (.ok v h)
  | _ => none
def mDin (n : Bool) (y x : MV) : M MV := fun h => match dgetM x y h with
  | some o => some (.ok (.bl (if n then !o.isSome else o.isSome)) h)
  | _ => none
/-- a[i] of anything -/
def mSub2 (x y : MV) : M MV := fun h => match mIx x y h with
  | some r => some r
  | none => mDget x y h
def mIn2 (n : Bool) (x y : MV) : M MV := fun h => match mIn n x y h with
  | some r => some r
  | none => mDin n x y h
section
variable {X : Cx} {W : WX} {a b c : Expr} {A B C : Sg → M MV} {es : List Expr} {As : Sg → M (List MV)} {pos : Pos}
theorem orE_intro {t u v : TE} (h1 : ∀ σ H Q, v σ H Q → t σ H Q ∨ u σ H Q) (a : PE X c t) (b : PE X c u) : PE X c v := ⟨fun pins s σ H Q I q => (h1 σ H Q q).elim (a.run pins s σ H Q I) (b.run pins s σ H Q I)⟩
/-- where the second is taken if the first has no answer -/
theorem two_or {f g : MV → MV → M MV} : ∀ σ H Q, tM K W (x2 (fun x y h => match f x y h with | some r => some r | none => g x y h) A B) σ H Q → tM K W (x2 f A B) σ H Q ∨ tM K W (x2 g A B) σ H Q := fun σ H Q ⟨φ, gg, h, R, hs, hg, e, p⟩ => by
  unfold x2 bd at e
  cases q1 : A gg h with
  | none => rw [q1] at e; cases e
  | some r1 =>
    cases r1 with
    | ex ee h1 =>
      refine .inl ⟨φ, gg, h, R, hs, hg, ?_, p⟩
      rw [q1] at e
      show bd (A gg) _ h = some R
      unfold bd
      rw [q1]
      exact e
    | ok x h1 =>
      rw [q1] at e
      dsimp only at e
      cases q2 : B gg h1 with
      | none => rw [q2] at e; cases e
      | some r2 =>
        cases r2 with
        | ex ee h2 =>
          refine .inl ⟨φ, gg, h, R, hs, hg, ?_, p⟩
          show bd (A gg) _ h = some R
          unfold bd
          rw [q1]
          dsimp only
          rw [q2] at e ⊢
          exact e
        | ok y h2 =>
          rw [q2] at e
          dsimp only at e
          have st : ∀ k : MV → MV → M MV, x2 k A B gg h = k x y h2 := fun k => by
            show bd (A gg) _ h = _
            unfold bd
            rw [q1]
            dsimp only
            rw [q2]
          cases q3 : f x y h2 with
          | some r =>
            rw [q3] at e
            exact .inl ⟨φ, gg, h, R, hs, hg, by rw [st, q3]; exact e, p⟩
          | none =>
            rw [q3] at e
            exact .inr ⟨φ, gg, h, R, hs, hg, by rw [st]; exact e, p⟩
theorem m_sub (ek : X.K = K) (hu : X.A.units + 1 < cLine) (ha : PE X a (tM K W A)) (hb : PE X b (tM K W B)) (hp : PlainIx b) : PE X (.Subscript a b pos) (tM K W (x2 mSub2 A B)) := by
  subst ek
  refine orE_intro (two_or (f := mIx) (g := mDget)) (m_ix (IxR.or ix_str (IxR.or ix_tup ix_list)) o_ix ha hb hp) ?_
  exact pew (pe_dget hu ha hb hp) fun σ H Q ⟨φ, g, h, R, hs, hg, e, p⟩ => bindG hs hg e p rfl fun x h1 v φ1 H1 f1 s1 g1 r1 e1 p1 => bindG s1 g1 e1 p1 rfl fun y h2 w φ2 H2 f2 s2 g2 r2 e2 p2 => by
    unfold mDget at e2
    split at e2
    · rename_i z q
      cases e2
      obtain ⟨a, u, ev, dg, _, k⟩ := dget_ok s2 (s1.rv f2 r1) r2 q
      obtain ⟨t, rfl, rt⟩ := k z rfl
      exact ⟨a, t, ev, dg, end_pu s2 rt p2⟩
    · cases e2
theorem m_in (ek : X.K = K) (hu : X.A.units + 1 < cLine) (ha : PE X a (tM K W A)) (hb : PE X b (tM K W B)) (hm : behindInMarks .In b = false) : PE X (.Compare a [.In] [b] pos) (tM K W (x2 (mIn2 false) A B)) := by
  subst ek
  refine orE_intro (two_or (f := mIn false) (g := mDin false)) (m_cmp (OpR.or (OpR.or op_inS op_in_str) op_in_seq) o_in ha hb hm) ?_
  exact pew (pe_cmp (pc_din hu ha hb) hm) fun σ H Q ⟨φ, g, h, R, hs, hg, e, p⟩ => bindG hs hg e p rfl fun x h1 v φ1 H1 f1 s1 g1 r1 e1 p1 => bindG s1 g1 e1 p1 rfl fun y h2 w φ2 H2 f2 s2 g2 r2 e2 p2 => by
    unfold mDin at e2
    split at e2
    · rename_i z q
      cases e2
      obtain ⟨a, u, ev, dg, k0, k⟩ := dget_ok s2 r2 (s1.rv f2 r1) q
      refine ⟨a, u, ev, dg, ?_⟩
      have hz : u.isSome = z.isSome := by
        cases z with
        | none => rw [k0 rfl]; rfl
        | some z => obtain ⟨t, rfl, _⟩ := k z rfl; rfl
      rw [hz]
      exact bl_end s2 p2
    · cases e2
theorem m_notIn (ek : X.K = K) (hu : X.A.units + 1 < cLine) (ha : PE X a (tM K W A)) (hb : PE X b (tM K W B)) (hm : behindInMarks .NotIn b = false) : PE X (.Compare a [.NotIn] [b] pos) (tM K W (x2 (mIn2 true) A B)) := by
  subst ek
  refine orE_intro (two_or (f := mIn true) (g := mDin true)) (m_cmp (OpR.or (OpR.or op_notInS op_notIn_str) op_notIn_seq) o_notIn ha hb hm) ?_
  exact pew (pe_cmp (pc_dnotin hu ha hb) hm) fun σ H Q ⟨φ, g, h, R, hs, hg, e, p⟩ => bindG hs hg e p rfl fun x h1 v φ1 H1 f1 s1 g1 r1 e1 p1 => bindG s1 g1 e1 p1 rfl fun y h2 w φ2 H2 f2 s2 g2 r2 e2 p2 => by
    unfold mDin at e2
    split at e2
    · rename_i z q
      cases e2
      obtain ⟨a, u, ev, dg, k0, k⟩ := dget_ok s2 r2 (s1.rv f2 r1) q
      refine ⟨a, u, ev, dg, ?_⟩
      have hz : u.isSome = z.isSome := by
        cases z with
        | none => rw [k0 rfl]; rfl
        | some z => obtain ⟨t, rfl, _⟩ := k z rfl; rfl
      rw [hz]
      exact bl_end s2 p2
    · cases e2
end
/-! ### a[i:j] -/
def xPart (A : Sg → M MV) : Sg → M (Option Int) := x1 (fun x h => match x with | .int i => some (.ok (some i) h) | _ => none) A
def xNoP : Sg → M (Option Int) := fun _ h => some (.ok none h)
def cutL {α : Type} (xs : List α) (lo hi : Option Int) : List α := (xs.drop (HT.sIx xs.length 0 lo)).take (HT.sIx xs.length xs.length hi - HT.sIx xs.length 0 lo)
def mCut (b : Bool) (x : MV) (lo hi : Option Int) : M MV := fun h => match x with
  | .str z => if z.length ≤ sizeLine then some (.ok (.str (cutS z lo hi)) h) else none
  | x => match tpv x with
    | some xs => some (.ok (if HT.sIx xs.length 0 lo = 0 ∧ HT.sIx xs.length xs.length hi = xs.length then x else .tup (cutL xs lo hi)) h)
    | none => match lsv x h with
      | some xs => mkl b (cutL xs lo hi) h
      | none => none
def xSl (b : Bool) (A : Sg → M MV) (L U : Sg → M (Option Int)) : Sg → M MV := fun g => bd (A g) fun x => bd (L g) fun l => bd (U g) fun u => mCut b x l u
abbrev tO (K : PySem.W.Frag) (W : WX) (A : Sg → M (Option Int)) : TO := tG (fun _ _ b c => b = c) K W A
theorem cut_rel {φ : Ph} {H : Hp} {vs : List V} {xs : List MV} {lo hi : Option Int} (r : Rvs K φ H vs xs) : Rvs K φ H (cutV vs lo hi) (cutL xs lo hi) := by
  unfold cutV cutL
  rw [r.length]
  exact (r.drop _).take _
def rSlAny (K : PySem.W.Frag) : V → Option Int → Option Int → Hp → VK → Prop := fun x lo hi H Q => rSlS x lo hi H Q ∨ (rSlA K x lo hi H Q ∨ rSlL K x lo hi H Q)
theorem sl_any {X : Cx} (ek : X.K = K) : SlR X (rSlAny K) := by
  subst ek
  intro pins s σ H x v vl vu lo hi sl Q I rx hs pl pu h
  rcases h with h | h | h
  · exact sl_str pins s σ H x v vl vu lo hi sl Q I rx hs pl pu h
  · exact sl_tupA pins s σ H x v vl vu lo hi sl Q I rx hs pl pu h
  · exact sl_list pins s σ H x v vl vu lo hi sl Q I rx hs pl pu h
section
variable {X : Cx} {W : WX} {a : Expr} {A : Sg → M MV} {pos p2 : Pos}
theorem po_w {X : Cx} {e : Option Expr} {t t' : TO} (h : PO X e t) (i : ∀ σ H Q, t' σ H Q → t σ H Q) : PO X e t' := ⟨fun pins s σ H Q I q => h.run pins s σ H Q I (i σ H Q q)⟩
theorem m_po (ha : PE X a (tM K W A)) : PO X (some a) (tO K W (xPart A)) := po_w (po_some ha) fun σ H Q ⟨φ, g, h, R, hs, hg, e, p⟩ => bindG hs hg e p rfl fun x h1 v φ1 H1 f1 s1 g1 r1 e1 p1 => by
  split at e1
  · cases e1
    unfold Rv at r1
    exact ⟨_, r1, p1 _ φ1 H1 (Fr.refl _ _) s1 rfl⟩
  · cases e1
theorem m_poN : PO X none (tO K W xNoP) := po_w po_none fun σ H Q ⟨φ, g, h, R, hs, hg, e, p⟩ => by
  cases e
  exact p _ φ H (Fr.refl _ _) hs rfl
theorem m_slice (b : Bool) {lo hi : Option Expr} {L U : Sg → M (Option Int)} (ek : X.K = K) (ha : PE X a (tM K W A)) (hl : PO X lo (tO K W L)) (hu : PO X hi (tO K W U)) : PE X (.Subscript a (.Slice lo hi none p2) pos) (tM K W (xSl b A L U)) :=
  pew (pe_slice (sl_any ek) ha hl hu) fun σ H Q ⟨φ, g, h, R, hs, hg, e, p⟩ => bindG hs hg e p rfl fun x h1 v φ1 H1 f1 s1 g1 r1 e1 p1 => bindG s1 g1 e1 p1 rfl fun l h2 l' φ2 H2 f2 s2 g2 r2 e2 p2 => bindG s2 g2 e2 p2 rfl fun u h3 u' φ3 H3 f3 s3 g3 r3 e3 p3 => by
    subst r2 r3
    have r1' := s1.rv (f2.trans f3) r1
    unfold mCut at e3
    split at e3
    · split at e3
      · cases e3
        unfold Rv at r1'
        exact .inl ⟨_, r1', by assumption, str_end s3 p3⟩
      · cases e3
    · split at e3
      · rename_i xs q
        obtain ⟨a, vs, rfl, qa, ra⟩ := tpv_ok q r1'
        cases e3
        refine .inr (.inl ⟨a, vs, rfl, qa, fun hw => ?_, fun hw => ?_⟩)
        · rw [ra.length] at hw
          rw [if_pos hw] at p3
          exact end_pu s3 r1' p3
        · rw [ra.length] at hw
          rw [if_neg hw] at p3
          exact end_tup s3 (cut_rel ra) p3
      · split at e3
        · rename_i xs q
          obtain ⟨a, vs, rfl, qa, ra⟩ := lsv_ok s3 q r1'
          exact .inr (.inr ⟨a, vs, rfl, qa, end_mkl s3 (cut_rel ra) e3 p3⟩)
        · cases e3
end
/-! ### built-ins -/
def seqv (x : MV) (h : Mh) : Option (List MV) := match tpv x with
  | some xs => some xs
  | none => lsv x h
theorem seqv_ok {φ : Ph} {h : Mh} {H : Hp} {v : V} {x : MV} {xs : List MV} (s : Sim K φ h H) (e : seqv x h = some xs) (r : Rv K φ H v x) : ∃ a vs, v = .ref a ∧ (SqL K H a vs ∨ SqT K H a vs) ∧ Rvs K φ H vs xs := by
  unfold seqv at e
  split at e
  · rename_i q
    cases e
    obtain ⟨a, vs, e1, qa, ra⟩ := tpv_ok q r
    exact ⟨a, vs, e1, .inr qa, ra⟩
  · obtain ⟨a, vs, e1, qa, ra⟩ := lsv_ok s e r
    exact ⟨a, vs, e1, .inl qa, ra⟩
theorem one_inv {φ : Ph} {H : Hp} {vs : List V} {x : MV} (r : Rvs K φ H vs [x]) : ∃ v, vs = [v] ∧ Rv K φ H v x := by
  obtain ⟨v, t, rfl, a, b⟩ := rvs_invr r
  rw [rvs_nilr b]
  exact ⟨v, rfl, a⟩
theorem two_inv {φ : Ph} {H : Hp} {vs : List V} {x y : MV} (r : Rvs K φ H vs [x, y]) : ∃ v w, vs = [v, w] ∧ Rv K φ H v x ∧ Rv K φ H w y := by
  obtain ⟨v, t, rfl, a, b⟩ := rvs_invr r
  obtain ⟨w, rfl, c⟩ := one_inv b
  exact ⟨v, w, rfl, a, c⟩
def mLen (xs : List MV) : M MV := fun h => match xs with
  | [.str z] => if z.length ≤ sizeLine then some (.ok (.int z.length) h) else none
  | [x] => (seqv x h).map fun ys => .ok (.int ys.length) h
  | _ => none
theorem o_len : OpN K mLen (rLenN K) := fun {W σ φ h H vs xs R Q} s r e p => by
  unfold mLen at e
  split at e
  · split at e
    · cases e
      obtain ⟨v, rfl, r1⟩ := one_inv r
      unfold Rv at r1
      exact ⟨v, _, rfl, by rw [r1]; exact ⟨by assumption, rfl⟩, int_end s p⟩
    · cases e
  · rename_i x _
    obtain ⟨v, rfl, r1⟩ := one_inv r
    cases q : seqv x h with
    | none => rw [q] at e; cases e
    | some ys =>
      rw [q] at e
      cases e
      obtain ⟨a, ws, rfl, qa, ra⟩ := seqv_ok s q r1
      refine ⟨_, ys.length, rfl, ?_, int_end s p⟩
      rcases qa with qa | qa
      · exact .inl ⟨ws, qa, ra.length.symm⟩
      · exact .inr ⟨ws, qa, ra.length.symm⟩
  · cases e
def mAbs (xs : List MV) : M MV := fun h => match xs with
  | [.int i] => some (.ok (.int (if i < 0 then -i else i)) h)
  | _ => none
theorem o_abs : OpN K mAbs (fun xs H Q => ∃ i, xs = [.int i] ∧ Q (.int (if i < 0 then -i else i)) H) := fun {W σ φ h H vs xs R Q} s r e p => by
  unfold mAbs at e
  split at e
  · cases e
    obtain ⟨v, rfl, r1⟩ := one_inv r
    unfold Rv at r1
    exact ⟨_, by rw [r1], int_end s p⟩
  · cases e
/-- int(..), bool(..) of an int or a bool -/
def mInt (xs : List MV) : M MV := fun h => match xs with
  | [.int i] => some (.ok (.int i) h)
  | [.bl k] => some (.ok (.int (if k then 1 else 0)) h)
  | _ => none
theorem o_int : OpN K mInt (fun xs H Q => (∃ i, xs = [.int i] ∧ Q (.int i) H) ∨ ∃ k, xs = [.bl k] ∧ Q (.int (if k then 1 else 0)) H) := fun {W σ φ h H vs xs R Q} s r e p => by
  unfold mInt at e
  split at e
  · cases e
    obtain ⟨v, rfl, r1⟩ := one_inv r
    unfold Rv at r1
    exact .inl ⟨_, by rw [r1], int_end s p⟩
  · cases e
    obtain ⟨v, rfl, r1⟩ := one_inv r
    unfold Rv at r1
    exact .inr ⟨_, by rw [r1], int_end s p⟩
  · cases e
def mStr (xs : List MV) : M MV := fun h => match xs with
  | [.int i] => if i.natAbs.log2 < 1920 then some (.ok (.str (toString i)) h) else none
  | _ => none
theorem o_str : OpN K mStr (fun xs H Q => ∃ i, xs = [.int i] ∧ i.natAbs.log2 < 1920 ∧ Q (.str (toString i)) H) := fun {W σ φ h H vs xs R Q} s r e p => by
  unfold mStr at e
  split at e
  · split at e
    · cases e
      obtain ⟨v, rfl, r1⟩ := one_inv r
      unfold Rv at r1
      exact ⟨_, by rw [r1], by assumption, str_end s p⟩
    · cases e
  · cases e
def boolsOf : List MV → Option (List Bool)
  | [] => some []
  | .bl b :: xs => (boolsOf xs).map (b :: ·)
  | _ => none
theorem bools_ok {φ : Ph} {H : Hp} : ∀ {vs : List V} {xs : List MV} {bs : List Bool}, boolsOf xs = some bs → Rvs K φ H vs xs → vs = bs.map V.bl
  | vs, [], bs, e, r => by cases e; rw [rvs_nilr r]; rfl
  | vs, x :: xs, bs, e, r => by
    obtain ⟨v, t, rfl, a, b⟩ := rvs_invr r
    cases x with
    | bl k =>
      change (boolsOf xs).map (k :: ·) = some bs at e
      cases q : boolsOf xs with
      | none => rw [q] at e; cases e
      | some cs =>
        rw [q] at e
        cases e
        unfold Rv at a
        rw [a, bools_ok q b]; rfl
    | _ => cases e
theorem boolsOf_map (bs : List Bool) : boolsOf (bs.map MV.bl) = some bs := by
  induction bs with
  | nil => rfl
  | cons b bs ih =>
    show (boolsOf (bs.map MV.bl)).map (b :: ·) = _
    rw [ih]; rfl
def mAll (xs : List MV) : M MV := fun h => match xs with
  | [x] => match lsv x h with
    | some ys => (boolsOf ys).map fun bs => .ok (.bl (bs.all id)) h
    | none => none
  | _ => none
def mAny (xs : List MV) : M MV := fun h => match xs with
  | [x] => match lsv x h with
    | some ys => (boolsOf ys).map fun bs => .ok (.bl (bs.any id)) h
    | none => none
  | _ => none
theorem o_all : OpN K mAll (rAll K) := fun {W σ φ h H vs xs R Q} s r e p => by
  unfold mAll at e
  split at e
  · split at e
    · rename_i ys q
      obtain ⟨v, rfl, r1⟩ := one_inv r
      obtain ⟨a, ws, rfl, qa, ra⟩ := lsv_ok s q r1
      cases q2 : boolsOf ys with
      | none => rw [q2] at e; cases e
      | some bs =>
        rw [q2] at e
        cases e
        have e2 := bools_ok q2 ra
        subst e2
        exact ⟨a, bs, rfl, qa, bl_end s p⟩
    · cases e
  · cases e
theorem o_any : OpN K mAny (rAny K) := fun {W σ φ h H vs xs R Q} s r e p => by
  unfold mAny at e
  split at e
  · split at e
    · rename_i ys q
      obtain ⟨v, rfl, r1⟩ := one_inv r
      obtain ⟨a, ws, rfl, qa, ra⟩ := lsv_ok s q r1
      cases q2 : boolsOf ys with
      | none => rw [q2] at e; cases e
      | some bs =>
        rw [q2] at e
        cases e
        have e2 := bools_ok q2 ra
        subst e2
        exact ⟨a, bs, rfl, qa, bl_end s p⟩
    · cases e
  · cases e
def intsOf : List MV → Option (List Int)
  | [] => some []
  | .int b :: xs => (intsOf xs).map (b :: ·)
  | _ => none
theorem ints_ok {φ : Ph} {H : Hp} : ∀ {vs : List V} {xs : List MV} {bs : List Int}, intsOf xs = some bs → Rvs K φ H vs xs → vs = bs.map V.int
  | vs, [], bs, e, r => by cases e; rw [rvs_nilr r]; rfl
  | vs, x :: xs, bs, e, r => by
    obtain ⟨v, t, rfl, a, b⟩ := rvs_invr r
    cases x with
    | int k =>
      change (intsOf xs).map (k :: ·) = some bs at e
      cases q : intsOf xs with
      | none => rw [q] at e; cases e
      | some cs =>
        rw [q] at e
        cases e
        unfold Rv at a
        rw [a, ints_ok q b]; rfl
    | _ => cases e
theorem intsOf_map (bs : List Int) : intsOf (bs.map MV.int) = some bs := by
  induction bs with
  | nil => rfl
  | cons b bs ih =>
    show (intsOf (bs.map MV.int)).map (b :: ·) = _
    rw [ih]; rfl
def mSum (xs : List MV) : M MV := fun h => match xs with
  | [x] => match lsv x h with
    | some ys => (intsOf ys).map fun bs => .ok (.int bs.sum) h
    | none => none
  | _ => none
theorem o_sum : OpN K mSum (rSum K) := fun {W σ φ h H vs xs R Q} s r e p => by
  unfold mSum at e
  split at e
  · split at e
    · rename_i ys q
      obtain ⟨v, rfl, r1⟩ := one_inv r
      obtain ⟨a, ws, rfl, qa, ra⟩ := lsv_ok s q r1
      cases q2 : intsOf ys with
      | none => rw [q2] at e; cases e
      | some bs =>
        rw [q2] at e
        cases e
        have e2 := ints_ok q2 ra
        subst e2
        exact ⟨a, bs, rfl, qa, int_end s p⟩
    · cases e
  · cases e
/-- max(a, b), min(a, b); max(xs), min(xs) -/
def mMax (xs : List MV) : M MV := fun h => match xs with
  | [.int i, .int j] => some (.ok (.int (if j > i then j else i)) h)
  | _ => none
theorem o_max : OpN K mMax (fun xs H Q => ∃ i j, xs = [.int i, .int j] ∧ Q (.int (if j > i then j else i)) H) := fun {W σ φ h H vs xs R Q} s r e p => by
  unfold mMax at e
  split at e
  · cases e
    obtain ⟨v, w, rfl, r1, r2⟩ := two_inv r
    unfold Rv at r1 r2
    exact ⟨_, _, by rw [r1, r2], int_end s p⟩
  · cases e
def mMin (xs : List MV) : M MV := fun h => match xs with
  | [.int i, .int j] => some (.ok (.int (if j < i then j else i)) h)
  | _ => none
theorem o_min : OpN K mMin (fun xs H Q => ∃ i j, xs = [.int i, .int j] ∧ Q (.int (if j < i then j else i)) H) := fun {W σ φ h H vs xs R Q} s r e p => by
  unfold mMin at e
  split at e
  · cases e
    obtain ⟨v, w, rfl, r1, r2⟩ := two_inv r
    unfold Rv at r1 r2
    exact ⟨_, _, by rw [r1, r2], int_end s p⟩
  · cases e
def mTuple (xs : List MV) : M MV := fun h => match xs with
  | [x] => match tpv x with
    | some _ => some (.ok x h)
    | none => (lsv x h).map fun ys => .ok (.tup ys) h
  | _ => none
theorem o_tuple : OpN K mTuple (rTupOf K) := fun {W σ φ h H vs xs R Q} s r e p => by
  unfold mTuple at e
  split at e
  · obtain ⟨v, rfl, r1⟩ := one_inv r
    split at e
    · rename_i ys q
      cases e
      obtain ⟨a, ws, rfl, qa, ra⟩ := tpv_ok q r1
      exact ⟨a, ws, rfl, .inr ⟨qa, end_pu s r1 p⟩⟩
    · obtain ⟨ys, q, e⟩ := Option.map_eq_some_iff.mp e
      subst e
      obtain ⟨a, ws, rfl, qa, ra⟩ := lsv_ok s q r1
      exact ⟨a, ws, rfl, .inl ⟨qa, end_tup s ra p⟩⟩
  · cases e
def mList (b : Bool) (xs : List MV) : M MV := fun h => match xs with
  | [x] => match seqv x h with
    | some ys => mkl b ys h
    | none => none
  | _ => none
theorem o_list (b : Bool) : OpN K (mList b) (rLstOf K) := fun {W σ φ h H vs xs R Q} s r e p => by
  unfold mList at e
  split at e
  · obtain ⟨v, rfl, r1⟩ := one_inv r
    split at e
    · rename_i ys q
      obtain ⟨a, ws, rfl, qa, ra⟩ := seqv_ok s q r1
      exact ⟨a, ws, rfl, qa, end_mkl s ra e p⟩
    · cases e
  · cases e
/-! isinstance of a built-in class -/
def tyN (x : MV) (h : Mh) : Option String := match x with
  | .non => some "NoneType"
  | .bl _ => some "bool"
  | .int _ => some "int"
  | .str _ => some "str"
  | .tup _ => some "tuple"
  | .ctup _ => some "tuple"
  | .tl _ => some "list"
  | .rol _ => some "list"
  | .td _ _ => some "dict"
  | .ref n => match h[n]? with
    | some (.lst _) => some "list"
    | some (.dK _) => some "dict"
    | some (.dT _) => some "dict"
    | _ => none
  | .raw _ => none
  | .exc _ _ _ _ => none
def mIsi (n : String) (x : MV) (h : Mh) : Option Bool := match tyN x h with
  | some t => kitB t n
  | none => none
def mIsi2 (xs : List MV) : M MV := fun h => match xs with
  | [x, .raw (.ty n)] => (mIsi n x h).map fun b => .ok (.bl b) h
  | _ => none
theorem tyN_ok {φ : Ph} {h : Mh} {H : Hp} {v : V} {x : MV} {t : String} (s : Sim K φ h H) (r : Rv K φ H v x) (e : tyN x h = some t) : TyX K H v (.type t) := by
  unfold tyN at e
  split at e
  · cases e; unfold Rv at r; subst r; exact .base .non
  · cases e; unfold Rv at r; subst r; exact .base (.bl _)
  · cases e; unfold Rv at r; subst r; exact .base (.int _)
  · cases e; unfold Rv at r; subst r; exact .base (.str _)
  · cases e; obtain ⟨a, vs, rfl, q, _⟩ := tpv_ok (x := .tup _) rfl r; exact tyx_tup q
  · cases e; obtain ⟨a, vs, rfl, q, _⟩ := tpv_ok (x := .ctup _) rfl r; exact tyx_tup q
  · cases e; obtain ⟨a, vs, rfl, q, _⟩ := lsv_ok (x := .tl _) s rfl r; exact tyx_list q
  · cases e; obtain ⟨a, vs, rfl, q, _⟩ := lsv_ok (x := .rol _) s rfl r; exact tyx_list q
  · cases e; unfold Rv at r; obtain ⟨a, vs, rfl, q, _⟩ := r; exact .base (.dK q)
  · split at e
    · rename_i o
      cases e
      obtain ⟨a, u, rfl, _, e2, ro⟩ := s.ref r o
      cases u with
      | lst vs => exact .base (.lst e2)
      | _ => exact ro.elim
    · rename_i o
      cases e
      obtain ⟨a, u, rfl, _, e2, ro⟩ := s.ref r o
      cases u with
      | dK vs => exact .base (.dK e2)
      | _ => exact ro.elim
    · rename_i o
      cases e
      obtain ⟨a, u, rfl, _, e2, ro⟩ := s.ref r o
      cases u with
      | dT vs => exact .base (.dT e2)
      | _ => exact ro.elim
    · cases e
  · cases e
  · cases e
theorem o_isi : OpN K mIsi2 (rIsi K) := fun {W σ φ h H vs xs R Q} s r e p => by
  unfold mIsi2 at e
  split at e
  · rename_i x n
    obtain ⟨v, w, rfl, r1, r2⟩ := two_inv r
    unfold Rv at r2
    subst r2
    cases q : mIsi n x h with
    | none => rw [q] at e; cases e
    | some b =>
      rw [q] at e
      cases e
      unfold mIsi at q
      split at q
      · rename_i t qt
        exact x_isi (tyN_ok s r1 qt) q (bl_end s p)
      · cases q
  · cases e
end
end Mi
/-! Mi: statements, calls, loops, comprehensions, defs -/
namespace Mi
open PySem PySem.Spec PyProof.Rows L2 Ob StX

/-! ### calls -/
/-- a def's promise: what F gives -/
def spM (K : PySem.W.Frag) (F : List MV → M MV) : Sp := fun vs H Q E => ∃ φ h xs r, Sim K φ h H ∧ Rvs K φ H vs xs ∧ F xs h = some r ∧ Pg (Rv K) K (fun c d _ H => E c d H) [] φ H Q r
abbrev FnM (P : Program) (w : World) (K : PySem.W.Frag) (mg : Str → Option Value) (base : Heap) (k : Nat) (f : Addr) (F : List MV → M MV) : Prop := FnR P w K mg base (L2.CX P w) k f (spM K F)
theorem pg_call {K : PySem.W.Frag} {W : WX} {σ : L2.St} {φ : Ph} {H : Hp} {Q : VK} {r : Rs MV} (p : Pg (Rv K) K W σ φ H Q r) : Pg (Rv K) K (fun c d _ H => W c d σ H) [] φ H Q r := by
  cases r with
  | ok x h => exact p
  | ex e h => exact p
section
variable {X : Cx} {K : PySem.W.Frag} {W : WX} {k : Nat} {f : Addr} {F : List MV → M MV}
/-- the callee runs -/
theorem run_call {pins : List (Addr × Obj)} {σ : L2.St} {H : Hp} {s : Shared} {Q : VK} {us : List Value} {vs : List V} (Fn : FnM X.prog X.w X.K X.mg X.base k f F) (hr : Room k X.A) (tk : Takes X W) (I : Inv X pins σ H s) (r : Vals vs us) (h : spM X.K F vs H Q fun c d H' => W c d σ H') :
    codeAny (model X.prog X.w) X.A (.call (.ref f) ⟨us, []⟩) (fun r s' => match r with | .ok (.ret v) => EP X pins σ Q v s' | .ok _ => False | .error e => X.xe e s') s := by
  refine codeAny_mono (Fn X.A X.stack s H us vs Q _ hr I.env0 r h) fun r s' hq => ?_
  cases r with
  | error e => exact tk e s' (XE.of_call I (fun cls d H' h => h) hq)
  | ok fl =>
    cases fl with
    | ret u => exact I.after hq
    | next => exact False.elim hq
    | brk => exact False.elim hq
    | cont => exact False.elim hq
variable {a o : Expr} {es : List Expr} {As : Sg → M (List MV)} {A : Sg → M MV} {x m : Str} {p pos apos : Pos}
theorem m_call (ek : X.K = K) (Fn : FnM X.prog X.w K X.mg X.base k (He.ga K x) F) (hr : Room k X.A) (hm : X.mg x = some (.ref (He.ga K x))) (hk : PySem.W.keepIn K (.ref (He.ga K x)) = true) (tk : Takes X W) (ha : PA X (a :: es) (tMA K W As)) (hg : Gl X x := by rfl) (hd : (x == ("__debug__" : Str)) = false := by decide)
    (he : starEach (a :: es) X.env = (false, eval a X.env) :: starEach es X.env := by rfl) (hpl : (backTo pos (starEach es X.env)).any (·.1) = false := by rfl) : PE X (.Call (.Name x p) (a :: es) [] pos) (tM K W (x1 F As)) := by
  subst ek
  refine ⟨fun pins s σ H Q I ⟨φ, g, h, R, hs, hgg, e, pp⟩ => ?_⟩
  refine wpAny_Call_Name_kw (ld_glob I hg hm ?_ hd)
  refine PySem.W.callWith_K (h₀ := X.base) I.ok.mod.kin hk (thn (ha.run pos pins s σ H (fun vs H1 => spM X.K F vs H1 Q fun c d H' => W c d σ H') I
    (bindG hs hgg e pp rfl fun xs h1 vs φ1 H1 f1 s1 g1 r1 e1 p1 => ⟨φ1, h1, xs, R, s1, r1, e1, pg_call p1⟩)) fun us s1 ⟨vs, H1, I1, r, q⟩ => ⟨I1.kIn, ?_⟩) he hpl
  exact wpAny_call (run_call Fn hr tk I1 r q)
theorem m_call0 (ek : X.K = K) (Fn : FnM X.prog X.w K X.mg X.base k (He.ga K x) F) (hr : Room k X.A) (hm : X.mg x = some (.ref (He.ga K x))) (hk : PySem.W.keepIn K (.ref (He.ga K x)) = true) (tk : Takes X W) (hg : Gl X x := by rfl) (hd : (x == ("__debug__" : Str)) = false := by decide) :
    PE X (.Call (.Name x p) [] [] pos) (tM K W (x1 F xNil)) := by
  subst ek
  refine ⟨fun pins s σ H Q I ⟨φ, g, h, R, hs, hgg, e, pp⟩ => ?_⟩
  refine wpAny_Call_Name_kw (ld_glob I hg hm ?_ hd)
  exact PySem.W.callWith_K0 I.kIn hk (wpAny_call (run_call (us := []) Fn hr tk I .nil ⟨φ, h, [], R, hs, rvs_nil, e, pg_call pp⟩))
/-- C(..) -/
def mMake (c : Str) (F : List MV → M MV) (xs : List MV) : M MV := fun h => match F (.ref h.length :: xs) (h ++ [.ins c []]) with
  | some (.ok .non h2) => some (.ok (.ref h.length) h2)
  | some (.ex e h2) => some (.ex e h2)
  | _ => none
theorem run_mk {pins : List (Addr × Obj)} {σ : L2.St} {φ : Ph} {h : Mh} {H : Hp} {s : Shared} {Q : VK} {us : List Value} {vs : List V} {xs : List MV} {R : Rs MV} (M : Mk X.K (He.ga X.K x) f) (Fn : FnM X.prog X.w X.K X.mg X.base k f F) (hr : Room (k + 1) X.A) (tk : Takes X W) (I : Inv X pins σ H s) (r : Vals vs us)
    (hs : Sim X.K φ h H) (rx : Rvs X.K φ H vs xs) (e : mMake x F xs h = some R) (p : Pg (Rv X.K) X.K W σ φ H Q R) : wpAny (model X.prog X.w) X.A (call (.ref (He.ga X.K x)) us) (EP X pins σ Q) X.xe s := by
  have n1 : H (s.heap.objs.size + 1) = none := I.hok.fresh (Nat.le_succ _)
  have n0 : H s.heap.objs.size = none := I.hok.fresh (Nat.le_refl _)
  have ne : s.heap.objs.size + 1 ≠ s.heap.objs.size := by omega
  have n2 : upd H s.heap.objs.size (.own (s.heap.objs.size + 1)) (s.heap.objs.size + 1) = none := by rw [upd_ne ne]; exact n1
  have s1 : Sim X.K φ h (upd H s.heap.objs.size (.own (s.heap.objs.size + 1))) := hs.out n0
  have f1 : Fr φ φ H (upd H s.heap.objs.size (.own (s.heap.objs.size + 1))) := Fr.out n0
  have f2 := Fr.push (φ := φ) (u := HO.ins (He.ga X.K x) s.heap.objs.size []) n2
  have s2 := s1.push (u := HO.ins (He.ga X.K x) s.heap.objs.size []) (o := .ins x []) n2 ⟨rfl, rfl, rvs_nil⟩
  have r1 : Rvs X.K (φ.push (s.heap.objs.size + 1)) _ (V.ref (s.heap.objs.size + 1) :: vs) (.ref h.length :: xs) := rvs_cons (Rv.last hs) (s1.rvs f2 (hs.rvs f1 rx))
  have I2 := Inv.made (C := He.ga X.K x) I
  have r2 : Vals (V.ref (s.heap.objs.size + 1) :: vs) (Value.ref (s.heap.objs.size + 1) :: us) := .cons rfl r
  unfold mMake at e
  cases q : F (.ref h.length :: xs) (h ++ [.ins x []]) with
  | none => rw [q] at e; cases e
  | some R0 =>
    have hq : spM X.K F (V.ref (s.heap.objs.size + 1) :: vs) (upd (upd H s.heap.objs.size (.own (s.heap.objs.size + 1))) (s.heap.objs.size + 1) (.ins (He.ga X.K x) s.heap.objs.size [])) (fun v H2 => v = .non ∧ Q (.ref (s.heap.objs.size + 1)) H2) fun c d H' => W c d σ H' := by
      refine ⟨_, _, _, R0, s2, r1, q, ?_⟩
      rw [q] at e
      cases R0 with
      | ex ee h2 =>
        cases e
        exact pg_call (fun C d φ' H' f s re => p C d φ' H' ((f1.trans f2).trans f) s re)
      | ok y h2 =>
        cases y with
        | non =>
          cases e
          refine fun v φ' H' f s3 rv => ⟨by unfold Rv at rv; exact rv, p _ φ' H' ((f1.trans f2).trans f) s3 (s2.rv f (Rv.last hs))⟩
        | _ => cases e
    refine wpAny_call (make_map (f := f) I.kIn M.makes M.init (beq_iff_eq.mp M.fn) (codeAny_mono (Fn _ X.stack _ _ (Value.ref (s.heap.objs.size + 1) :: us) _ _ _ (hr.make _ us []) (I2.env0.make _ us []) r2 hq) fun r s' hq' => ?_))
    cases r with
    | error e => exact tk e s' (XE.of_call I2 (fun cls d H' h => h) hq')
    | ok fl =>
      cases fl with
      | ret u =>
        obtain ⟨v, H', I3, rv, ev, q3⟩ := I2.after hq'
        subst ev
        exact ⟨rv, ⟨V.ref (s.heap.objs.size + 1), H', I3, rfl, q3⟩⟩
      | next => exact False.elim hq'
      | brk => exact False.elim hq'
      | cont => exact False.elim hq'
theorem m_make (ek : X.K = K) (M : Mk K (He.ga K x) f) (Fn : FnM X.prog X.w K X.mg X.base k f F) (hr : Room (k + 1) X.A) (hm : X.mg x = some (.ref (He.ga K x))) (tk : Takes X W) (ha : PA X (a :: es) (tMA K W As)) (hg : Gl X x := by rfl) (hd : (x == ("__debug__" : Str)) = false := by decide)
    (he : starEach (a :: es) X.env = (false, eval a X.env) :: starEach es X.env := by rfl) (hpl : (backTo pos (starEach es X.env)).any (·.1) = false := by rfl) : PE X (.Call (.Name x p) (a :: es) [] pos) (tM K W (x1 (mMake x F) As)) := by
  subst ek
  refine ⟨fun pins s σ H Q I ⟨φ, g, h, R, hs, hgg, e, pp⟩ => ?_⟩
  refine wpAny_Call_Name_kw (ld_glob I hg hm ?_ hd)
  refine PySem.W.callWith_K (h₀ := X.base) I.ok.mod.kin M.kp (thn (ha.run pos pins s σ H (fun vs H1 => ∃ φ1 h1 xs, Sim X.K φ1 h1 H1 ∧ Rvs X.K φ1 H1 vs xs ∧ mMake x F xs h1 = some R ∧ Pg (Rv X.K) X.K W σ φ1 H1 Q R) I
    (bindG hs hgg e pp rfl fun xs h1 vs φ1 H1 f1 s1 g1 r1 e1 p1 => ⟨φ1, h1, xs, s1, r1, e1, p1⟩)) fun us s1 ⟨vs, H1, I1, r, q⟩ => ⟨I1.kIn, ?_⟩) he hpl
  obtain ⟨φ1, h1, xs, s1, r1, e1, p1⟩ := q
  exact run_mk M Fn hr tk I1 r s1 r1 e1 p1
theorem m_make0 (ek : X.K = K) (M : Mk K (He.ga K x) f) (Fn : FnM X.prog X.w K X.mg X.base k f F) (hr : Room (k + 1) X.A) (hm : X.mg x = some (.ref (He.ga K x))) (tk : Takes X W) (hg : Gl X x := by rfl) (hd : (x == ("__debug__" : Str)) = false := by decide) :
    PE X (.Call (.Name x p) [] [] pos) (tM K W (x1 (mMake x F) xNil)) := by
  subst ek
  refine ⟨fun pins s σ H Q I ⟨φ, g, h, R, hs, hgg, e, pp⟩ => ?_⟩
  refine wpAny_Call_Name_kw (ld_glob I hg hm ?_ hd)
  exact PySem.W.callWith_K0 I.kIn M.kp (run_mk (us := []) M Fn hr tk I .nil hs rvs_nil e pp)
/-- o.m(..): o an instance of the class c -/
def insAt (x : MV) (h : Mh) : Option (Str × List (Str × MV)) := match x with
  | .ref n => match h[n]? with
    | some (.ins c fs) => some (c, fs)
    | _ => none
  | _ => none
theorem insAt_ok {φ : Ph} {h : Mh} {H : Hp} {v : V} {x : MV} {c : Str} {gs : List (Str × MV)} (s : Sim K φ h H) (r : Rv K φ H v x) (e : insAt x h = some (c, gs)) :
    ∃ a dx fs, v = .ref a ∧ H a = some (.ins (He.ga K c) dx fs) ∧ fs.map (·.1) = gs.map (·.1) ∧ Rvs K φ H (fs.map (·.2)) (gs.map (·.2)) := by
  unfold insAt at e
  split at e
  · split at e
    · rename_i o
      cases e
      obtain ⟨a, u, rfl, _, e2, ro⟩ := s.ref r o
      cases u with
      | ins C dx fs =>
        obtain ⟨rfl, h1, h2⟩ := ro
        exact ⟨a, dx, fs, rfl, e2, h1, h2⟩
      | _ => exact ro.elim
    · cases e
  · cases e
theorem lookup_none {gs : List (Str × MV)} {fs : List (Str × V)} {f : Str} : fs.map (·.1) = gs.map (·.1) → gs.lookup f = none → fs.lookup f = none := by
  induction fs generalizing gs with
  | nil => intro _ _; rfl
  | cons p fs ih =>
    intro e h
    cases gs with
    | nil => cases e
    | cons q gs =>
      obtain ⟨p1, p2⟩ := p
      obtain ⟨q1, q2⟩ := q
      simp only [List.map_cons, List.cons.injEq] at e
      obtain ⟨e1, e2⟩ := e
      subst e1
      rw [List.lookup_cons] at h ⊢
      cases z : f == p1 with
      | true => rw [z] at h; cases h
      | false => rw [z] at h; exact ih e2 h
theorem lookup_some {φ : Ph} {H : Hp} {x : MV} {f : Str} : ∀ {gs : List (Str × MV)} {fs : List (Str × V)}, fs.map (·.1) = gs.map (·.1) → Rvs K φ H (fs.map (·.2)) (gs.map (·.2)) → gs.lookup f = some x → ∃ v, fs.lookup f = some v ∧ Rv K φ H v x
  | [], fs, _, _, h => by cases h
  | q :: gs, [], e, _, _ => by cases e
  | (q1, q2) :: gs, (p1, p2) :: fs, e, r, h => by
    simp only [List.map_cons, List.cons.injEq] at e
    obtain ⟨e1, e2⟩ := e
    subst e1
    obtain ⟨a, b⟩ := rvs_inv (by simpa using r)
    rw [List.lookup_cons] at h ⊢
    cases z : f == p1 with
    | true => rw [z] at h; cases h; exact ⟨p2, rfl, a⟩
    | false => rw [z] at h; exact lookup_some e2 b h
def xMeth (c m : Str) (F : List MV → M MV) (A : Sg → M MV) (As : Sg → M (List MV)) : Sg → M MV := fun g => bd (A g) fun x h => match insAt x h with
  | some (c', gs) => if c' = c ∧ gs.lookup m = none then bd (As g) (fun xs => F (x :: xs)) h else none
  | none => none
theorem m_meth {c : Str} {pl : Sem Bool} (ek : X.K = K) (he : PE X o (tM K W A)) (cl : Cls K (He.ga K c)) (hm : Meth K (He.ga K c) m f) (Fn : FnM X.prog X.w K X.mg X.base k f F) (hr : Room k X.A) (tk : Takes X W) (ha : PA X (a :: es) (tMA K W As))
    (hst : starEach (a :: es) X.env = (false, eval a X.env) :: starEach es X.env := by rfl) (hpl : (backTo pos (starEach es X.env)).any (·.1) = false := by rfl)
    (ht : eval (.Call (.Attribute o m apos) (a :: es) [] pos) X.env = (do
      let ov ← eval o X.env
      standAt apos.atName
      let (f, first) ← holding [ov] (getMethod ov m pl)
      callWith pos f first (backTo pos (starEach (a :: es) X.env)) (backToKw pos (keywordEach [] X.env))) := by rfl) : PE X (.Call (.Attribute o m apos) (a :: es) [] pos) (tM K W (xMeth c m F A As)) := by
  subst ek
  refine ⟨fun pins s σ H Q I ⟨φ, g, h, R, hs, hgg, e, pp⟩ => ?_⟩
  refine PySem.W.methodCall_KW (pl := pl) (thn (he.run pins s σ H (fun v H1 => ∃ a dx fs, v = .ref a ∧ H1 a = some (.ins (He.ga X.K c) dx fs) ∧ fs.lookup m = none ∧ tMA X.K W As σ H1 fun vs H2 => spM X.K F (v :: vs) H2 Q fun c d H' => W c d σ H') I
    (bindG hs hgg e pp rfl fun x h1 v φ1 H1 f1 s1 g1 r1 e1 p1 => by
      split at e1
      · rename_i c' gs q
        split at e1
        · rename_i hc
          obtain ⟨rfl, hl⟩ := hc
          obtain ⟨b, dx, fs, rfl, e2, e3, e4⟩ := insAt_ok s1 r1 q
          exact ⟨b, dx, fs, rfl, e2, lookup_none e3 hl, bindG s1 g1 e1 p1 rfl fun xs h2 vs φ2 H2 f2 s2 g2 r2 e2 p2 => ⟨φ2, h2, _, R, s2, rvs_cons (s1.rv f2 r1) r2, e2, pg_call p2⟩⟩
        · cases e1
      · cases e1)) fun u s1 ⟨x, H1, I1, rx, b, dx, fs, ex, ea, l, q⟩ => ?_) ht
  subst ex
  obtain rfl : u = Value.ref b := rx
  refine getmeth_ok I1 ea cl hm l ?_
  refine PySem.W.callWith_K (first := [.ref b]) (h₀ := X.base) I.ok.mod.kin hm.kp (thn (ha.run pos pins s1 σ H1 _ I1 q) fun us s2 ⟨vs, H2, I2, r, q2⟩ => ⟨I2.kIn, ?_⟩) hst hpl
  exact wpAny_call (run_call (us := .ref b :: us) (vs := .ref b :: vs) Fn hr tk I2 (.cons rfl r) q2)
theorem m_meth0 {c : Str} {pl : Sem Bool} (ek : X.K = K) (he : PE X o (tM K W A)) (cl : Cls K (He.ga K c)) (hm : Meth K (He.ga K c) m f) (Fn : FnM X.prog X.w K X.mg X.base k f F) (hr : Room k X.A) (tk : Takes X W)
    (ht : eval (.Call (.Attribute o m apos) [] [] pos) X.env = (do
      let ov ← eval o X.env
      standAt apos.atName
      let (f, first) ← holding [ov] (getMethod ov m pl)
      callWith pos f first (backTo pos (starEach [] X.env)) (backToKw pos (keywordEach [] X.env))) := by rfl) : PE X (.Call (.Attribute o m apos) [] [] pos) (tM K W (xMeth c m F A xNil)) := by
  subst ek
  refine ⟨fun pins s σ H Q I ⟨φ, g, h, R, hs, hgg, e, pp⟩ => ?_⟩
  refine PySem.W.methodCall_KW (pl := pl) (thn (he.run pins s σ H (fun v H1 => ∃ a dx fs, v = .ref a ∧ H1 a = some (.ins (He.ga X.K c) dx fs) ∧ fs.lookup m = none ∧ spM X.K F [v] H1 Q fun c d H' => W c d σ H') I
    (bindG hs hgg e pp rfl fun x h1 v φ1 H1 f1 s1 g1 r1 e1 p1 => by
      split at e1
      · rename_i c' gs q
        split at e1
        · rename_i hc
          obtain ⟨rfl, hl⟩ := hc
          obtain ⟨b, dx, fs, rfl, e2, e3, e4⟩ := insAt_ok s1 r1 q
          exact ⟨b, dx, fs, rfl, e2, lookup_none e3 hl, φ1, h1, [x], R, s1, rvs_cons r1 rvs_nil, e1, pg_call p1⟩
        · cases e1
      · cases e1)) fun u s1 ⟨x, H1, I1, rx, b, dx, fs, ex, ea, l, q⟩ => ?_) ht
  subst ex
  obtain rfl : u = Value.ref b := rx
  refine getmeth_ok I1 ea cl hm l ?_
  exact PySem.W.callWith_K0 (first := [.ref b]) I1.kIn hm.kp (wpAny_call (run_call (us := [.ref b]) (vs := [.ref b]) Fn hr tk I1 (.cons rfl .nil) q))
/-! fields -/
/-- each class of cs has no attribute f of its own -/
inductive AllC (K : PySem.W.Frag) (f : Str) : List Str → Prop
  | nil : AllC K f []
  | cons {c : Str} {cs : List Str} : Cls K (He.ga K c) → NoAttr K (He.ga K c) f → AllC K f cs → AllC K f (c :: cs)
theorem AllC.at {f c : Str} : ∀ {cs : List Str}, AllC K f cs → c ∈ cs → Cls K (He.ga K c) ∧ NoAttr K (He.ga K c) f
  | _, .cons a b r, h => by
    rcases List.mem_cons.mp h with e | e
    · rw [e]; exact ⟨a, b⟩
    · exact r.at e
def mFld (cs : List Str) (f : Str) (x : MV) : M MV := fun h => match insAt x h with
  | some (c, gs) => if c ∈ cs then (gs.lookup f).map fun v => .ok v h else none
  | none => none
theorem m_fld {cs : List Str} {f : Str} (ek : X.K = K) (hC : AllC K f cs) (ha : PE X o (tM K W A)) (hb : attributeBase o f X.env (eval o X.env) = eval o X.env) : PE X (.Attribute o f pos) (tM K W (x1 (mFld cs f) A)) := by
  subst ek
  exact pew (pe_fld ha hb) fun σ H Q ⟨φ, g, h, R, hs, hg, e, p⟩ => bindG hs hg e p rfl fun x h1 v φ1 H1 f1 s1 g1 r1 e1 p1 => by
    unfold mFld at e1
    split at e1
    · rename_i c gs q
      split at e1
      · rename_i hc
        obtain ⟨b, dx, fs, rfl, e2, e3, e4⟩ := insAt_ok s1 r1 q
        obtain ⟨y, q2, e1⟩ := Option.map_eq_some_iff.mp e1
        subst e1
        obtain ⟨u, l1, l2⟩ := lookup_some e3 e4 q2
        exact ⟨b, _, dx, fs, u, rfl, e2, (hC.at hc).1, (hC.at hc).2, l1, end_pu s1 l2 p1⟩
      · cases e1
    · cases e1
def putN (f : Str) (v : MV) : List (Str × MV) → List (Str × MV)
  | [] => [(f, v)]
  | (g, w) :: r => if g = f then (g, v) :: r else (g, w) :: putN f v r
end
end Mi
/-! Mi: methods of built-in types, statements, loops, comprehensions, defs -/
namespace Mi
open PySem PySem.Spec PyProof.Rows L2 Ob StX

/-! ### methods of lists and texts -/
def isTy (T : String) (x : MV) (h : Mh) : Bool := match x with
  | .str _ => decide (T = "str")
  | x => decide (T = "list") && (lsv x h).isSome
def xBM (T : String) (F : MV → List MV → M MV) (A : Sg → M MV) (As : Sg → M (List MV)) : Sg → M MV := fun g => bd (A g) fun x h => if isTy T x h = true then bd (As g) (fun xs => F x xs) h else none
section
variable {X : Cx} {K : PySem.W.Frag} {W : WX} {o e : Expr} {es : List Expr} {A : Sg → M MV} {As : Sg → M (List MV)} {name : Str} {apos cpos : Pos} {T id : String} {r : V → List V → Hp → VK → Prop} {F : MV → List MV → M MV}
theorem isTy_ok {φ : Ph} {h : Mh} {H : Hp} {v : V} {x : MV} (s : Sim K φ h H) (rv : Rv K φ H v x) (e : isTy T x h = true) : tyV K T v H := by
  unfold isTy at e
  split at e
  · unfold Rv at rv
    subst rv
    have e2 : T = "str" := of_decide_eq_true e
    exact e2
  · rw [Bool.and_eq_true] at e
    obtain ⟨e1, e2⟩ := e
    obtain ⟨xs, q⟩ := Option.isSome_iff_exists.mp e2
    obtain ⟨a, vs, rfl, qa, _⟩ := lsv_ok s q rv
    exact .inl ⟨of_decide_eq_true e1, vs, qa⟩
theorem m_bm (ek : X.K = K) (pa : PlainAttrs T) (slot : Slot T name id) (hty : typeOf (.builtin id) = pure (.type "method_descriptor")) (hm : MtR X id r) (hf : OpM K F r) (ho : PE X o (tM K W A)) (ha : PA X (e :: es) (tMA K W As))
    (hbase : attributeBase o name X.env (eval o X.env) = eval o X.env := by rfl)
    (hfew : ((backTo cpos (starEach (e :: es) X.env)).all (fun x => !x.1) && (backToKw cpos (keywordEach [] X.env)).all (fun x => x.1.isSome)
      && decide ((e :: es).length + ([] : List Keyword).length + (if ([] : List Keyword).isEmpty then 0 else 1) < 30)) = true := by rfl)
    (hline : (apos.endLine == cpos.line) = true := by rfl) (hs : starEach (e :: es) X.env = (false, eval e X.env) :: starEach es X.env := by rfl) (hplain : (backTo cpos (starEach es X.env)).any (·.1) = false := by rfl) :
    PE X (.Call (.Attribute o name apos) (e :: es) [] cpos) (tM K W (xBM T F A As)) := by
  subst ek
  exact pew (pe_bm pa slot hty hm ho ha hbase hfew hline hs hplain) fun σ H Q ⟨φ, g, h, R, hs, hg, e, p⟩ => bindG hs hg e p rfl fun x h1 v φ1 H1 f1 s1 g1 r1 e1 p1 => by
    split at e1
    · rename_i ht
      exact ⟨isTy_ok s1 r1 ht, bindG s1 g1 e1 p1 rfl fun xs h2 vs φ2 H2 f2 s2 g2 r2 e2 p2 => hf s2 (s1.rv f2 r1) r2 e2 p2⟩
    · cases e1
theorem m_bm0 (ek : X.K = K) (pa : PlainAttrs T) (slot : Slot T name id) (hty : typeOf (.builtin id) = pure (.type "method_descriptor")) (hm : MtR X id r) (hf : OpM K F r) (ho : PE X o (tM K W A))
    (hbase : attributeBase o name X.env (eval o X.env) = eval o X.env := by rfl) (hline : (apos.endLine == cpos.line) = true := by rfl) : PE X (.Call (.Attribute o name apos) [] [] cpos) (tM K W (xBM T F A xNil)) := by
  subst ek
  exact pew (pe_bm0 pa slot hty hm ho hbase hline) fun σ H Q ⟨φ, g, h, R, hs, hg, e, p⟩ => bindG hs hg e p rfl fun x h1 v φ1 H1 f1 s1 g1 r1 e1 p1 => by
    split at e1
    · rename_i ht
      exact ⟨isTy_ok s1 r1 ht, hf s1 r1 rvs_nil e1 p1⟩
    · cases e1
end
/-- the list at n -/
def lstAt (x : MV) (h : Mh) : Option (Nat × List MV) := match x with
  | .ref n => match h[n]? with
    | some (.lst xs) => some (n, xs)
    | _ => none
  | _ => none
section
variable {K : PySem.W.Frag}
theorem lstAt_ok {φ : Ph} {h : Mh} {H : Hp} {v : V} {x : MV} {n : Nat} {xs : List MV} (s : Sim K φ h H) (r : Rv K φ H v x) (e : lstAt x h = some (n, xs)) : ∃ a vs, v = .ref a ∧ φ.a[n]? = some a ∧ H a = some (.lst vs) ∧ Rvs K φ H vs xs := by
  unfold lstAt at e
  split at e
  · split at e
    · rename_i o
      cases e
      obtain ⟨a, u, e1, e2, e3, ro⟩ := s.ref r o
      cases u with
      | lst vs => exact ⟨a, vs, e1, e2, e3, ro⟩
      | _ => exact ro.elim
    · cases e
  · cases e
/-- the list at n becomes ys; the answer x -/
theorem end_set {W : WX} {σ : L2.St} {φ : Ph} {h : Mh} {H : Hp} {Q : VK} {a : Addr} {n : Nat} {ws : List V} {ys : List MV} {v : V} {x : MV} (s : Sim K φ h H) (e : φ.a[n]? = some a) (r : Rvs K φ H ws ys) (rx : Rv K φ H v x) (p : Pg (Rv K) K W σ φ H Q (.ok x (h.set n (.lst ys)))) : Q v (upd H a (.lst ws)) := by
  have f : Fr φ φ H (upd H a (.lst ws)) := Fr.put (List.mem_of_getElem? e)
  exact p _ φ _ f (s.put e (show Ro K φ H (.lst ws) (.lst ys) from r)) (s.rv f rx)
theorem rv_n {φ : Ph} {H : Hp} : Rv K φ H .non .non := by unfold Rv; rfl
def mAppend (x : MV) (ys : List MV) : M MV := fun h => match lstAt x h, ys with
  | some (n, xs), [y] => if xs.length < sizeLine then some (.ok .non (h.set n (.lst (xs ++ [y])))) else none
  | _, _ => none
theorem o_append : OpM K mAppend rAppend := fun {W σ φ h H v x vs xs R Q} s r1 r2 e p => by
  unfold mAppend at e
  split at e
  · rename_i n zs y q
    split at e
    · cases e
      obtain ⟨w, rfl, rw_⟩ := one_inv r2
      obtain ⟨a, us, rfl, e2, e3, r3⟩ := lstAt_ok s r1 q
      exact ⟨a, us, w, rfl, rfl, e3, by rw [r3.length]; assumption, end_set s e2 (r3.app (rvs_cons rw_ rvs_nil)) rv_n p⟩
    · cases e
  · cases e
def mExtend (x : MV) (ys : List MV) : M MV := fun h => match lstAt x h, ys with
  | some (n, xs), [y] => match lsw y h with
    | some zs => if xs.length + zs.length ≤ sizeLine then some (.ok .non (h.set n (.lst (xs ++ zs)))) else none
    | none => none
  | _, _ => none
theorem o_extend : OpM K mExtend rExtend := fun {W σ φ h H v x vs xs R Q} s r1 r2 e p => by
  unfold mExtend at e
  split at e
  · rename_i n zs y q
    split at e
    · rename_i ws q2
      split at e
      · cases e
        obtain ⟨w, rfl, rw_⟩ := one_inv r2
        obtain ⟨a, us, rfl, e2, e3, r3⟩ := lstAt_ok s r1 q
        obtain ⟨b, ts, rfl, e4, r4⟩ := lsw_ok s q2 rw_
        exact ⟨a, b, us, ts, rfl, rfl, e3, e4, by rw [r3.length, r4.length]; assumption, end_set s e2 (r3.app r4) rv_n p⟩
      · cases e
    · cases e
  · cases e
def rInsert : V → List V → Hp → VK → Prop := fun x vs H Q => ∃ (l : Addr) (xs : List V) (i : Int) (y : V), x = .ref l ∧ vs = [.int i, y] ∧ H l = some (.lst xs) ∧ xs.length < sizeLine ∧ 0 ≤ i ∧ i < 2 ^ 63 ∧ Q .non (upd H l (.lst (xs.take i.toNat ++ [y] ++ xs.drop i.toNat)))
theorem mtr_insert {X : Cx} : MtR X "list.insert" rInsert := mt_insert
def mInsert (x : MV) (ys : List MV) : M MV := fun h => match lstAt x h, ys with
  | some (n, xs), [.int i, y] => if xs.length < sizeLine ∧ 0 ≤ i ∧ i < 2 ^ 63 then some (.ok .non (h.set n (.lst (xs.take i.toNat ++ [y] ++ xs.drop i.toNat)))) else none
  | _, _ => none
theorem o_insert : OpM K mInsert rInsert := fun {W σ φ h H v x vs xs R Q} s r1 r2 e p => by
  unfold mInsert at e
  split at e
  · rename_i n zs i y q
    split at e
    · rename_i hc
      cases e
      obtain ⟨w1, w, rfl, r5, rw_⟩ := two_inv r2
      unfold Rv at r5
      subst r5
      obtain ⟨a, us, rfl, e2, e3, r3⟩ := lstAt_ok s r1 q
      exact ⟨a, us, i, w, rfl, rfl, e3, by rw [r3.length]; exact hc.1, hc.2.1, hc.2.2, end_set s e2 (((r3.take _).app (rvs_cons rw_ rvs_nil)).app (r3.drop _)) rv_n p⟩
    · cases e
  · cases e
theorem Rvs.erase {φ : Ph} {H : Hp} : ∀ {vs : List V} {xs : List MV} (k : Nat), Rvs K φ H vs xs → Rvs K φ H (vs.eraseIdx k) (xs.eraseIdx k)
  | vs, [], k, h => by rw [rvs_nilr h]; simp; exact rvs_nil
  | vs, x :: xs, 0, h => by
    obtain ⟨v, r, rfl, a, b⟩ := rvs_invr h
    simpa using b
  | vs, x :: xs, k + 1, h => by
    obtain ⟨v, r, rfl, a, b⟩ := rvs_invr h
    simp
    exact rvs_cons a (b.erase k)
def mPop (x : MV) (ys : List MV) : M MV := fun h => match lstAt x h, ys with
  | some (n, xs), [] => match xs[xs.length - 1]? with
    | some y => some (.ok y (h.set n (.lst xs.dropLast)))
    | none => none
  | some (n, xs), [.int i] => if -(2 ^ 63) ≤ i ∧ i < 2 ^ 63 then (match seqIndex? i xs.length with
    | some k => (xs[k]?).map fun y => .ok y (h.set n (.lst (xs.eraseIdx k)))
    | none => none) else none
  | _, _ => none
theorem Rvs.dropLast {φ : Ph} {H : Hp} {vs : List V} {xs : List MV} (h : Rvs K φ H vs xs) : Rvs K φ H vs.dropLast xs.dropLast := by
  rw [List.dropLast_eq_take, List.dropLast_eq_take, h.length]
  exact h.take _
theorem o_pop : OpM K mPop (fun x vs H Q => rPop x vs H Q ∨ rPopAt x vs H Q) := fun {W σ φ h H v x vs xs R Q} s r1 r2 e p => by
  unfold mPop at e
  split at e
  · rename_i n zs q
    split at e
    · rename_i y hy
      cases e
      rw [rvs_nilr r2]
      obtain ⟨a, us, rfl, e2, e3, r3⟩ := lstAt_ok s r1 q
      obtain ⟨w, e4, r4⟩ := r3.get hy
      exact .inl ⟨a, us, w, rfl, rfl, e3, by rw [r3.length]; exact e4, end_set s e2 r3.dropLast r4 p⟩
    · cases e
  · rename_i n zs i q
    split at e
    · rename_i hc
      split at e
      · rename_i k hk
        obtain ⟨y, hy, e⟩ := Option.map_eq_some_iff.mp e
        subst e
        obtain ⟨w, rfl, rw_⟩ := one_inv r2
        unfold Rv at rw_
        subst rw_
        obtain ⟨a, us, rfl, e2, e3, r3⟩ := lstAt_ok s r1 q
        obtain ⟨w, e4, r4⟩ := r3.get hy
        exact .inr ⟨a, us, i, k, w, rfl, rfl, e3, hc.1, hc.2, by rw [r3.length]; exact hk, e4, end_set s e2 (r3.erase k) r4 p⟩
      · cases e
    · cases e
  · cases e
def mClear (x : MV) (ys : List MV) : M MV := fun h => match lstAt x h, ys with
  | some (n, _), [] => some (.ok .non (h.set n (.lst [])))
  | _, _ => none
theorem o_clear : OpM K mClear rClear := fun {W σ φ h H v x vs xs R Q} s r1 r2 e p => by
  unfold mClear at e
  split at e
  · rename_i n zs q
    cases e
    rw [rvs_nilr r2]
    obtain ⟨a, us, rfl, e2, e3, r3⟩ := lstAt_ok s r1 q
    exact ⟨a, us, rfl, rfl, e3, end_set s e2 rvs_nil rv_n p⟩
  · cases e
/-- texts -/
def mStr1 (f : Str → Str → MV) (x : MV) (ys : List MV) : M MV := fun h => match x, ys with
  | .str a, [.str b] => some (.ok (f a b) h)
  | _, _ => none
theorem o_str1b {f : Str → Str → Bool} : OpM K (mStr1 fun a b => .bl (f a b)) (fun x xs H Q => ∃ a b, x = .str a ∧ xs = [.str b] ∧ Q (.bl (f a b)) H) := fun {W σ φ h H v x vs xs R Q} s r1 r2 e p => by
  unfold mStr1 at e
  split at e
  · cases e
    obtain ⟨w, rfl, rw_⟩ := one_inv r2
    unfold Rv at r1 rw_
    subst r1 rw_
    exact ⟨_, _, rfl, rfl, bl_end s p⟩
  · cases e
theorem o_str1i {f : Str → Str → Int} : OpM K (mStr1 fun a b => .int (f a b)) (fun x xs H Q => ∃ a b, x = .str a ∧ xs = [.str b] ∧ Q (.int (f a b)) H) := fun {W σ φ h H v x vs xs R Q} s r1 r2 e p => by
  unfold mStr1 at e
  split at e
  · cases e
    obtain ⟨w, rfl, rw_⟩ := one_inv r2
    unfold Rv at r1 rw_
    subst r1 rw_
    exact ⟨_, _, rfl, rfl, int_end s p⟩
  · cases e
def strsOf : List MV → Option (List Str)
  | [] => some []
  | .str b :: xs => (strsOf xs).map (b :: ·)
  | _ => none
theorem strs_ok {φ : Ph} {H : Hp} : ∀ {vs : List V} {xs : List MV} {bs : List Str}, strsOf xs = some bs → Rvs K φ H vs xs → vs = bs.map V.str
  | vs, [], bs, e, r => by cases e; rw [rvs_nilr r]; rfl
  | vs, x :: xs, bs, e, r => by
    obtain ⟨v, t, rfl, a, b⟩ := rvs_invr r
    cases x with
    | str k =>
      change (strsOf xs).map (k :: ·) = some bs at e
      obtain ⟨cs, q, e⟩ := Option.map_eq_some_iff.mp e
      subst e
      unfold Rv at a
      rw [a, strs_ok q b]; rfl
    | _ => cases e
theorem strsOf_map (bs : List Str) : strsOf (bs.map MV.str) = some bs := by
  induction bs with
  | nil => rfl
  | cons b bs ih =>
    show (strsOf (bs.map MV.str)).map (b :: ·) = _
    rw [ih]; rfl
def mJoin (x : MV) (ys : List MV) : M MV := fun h => match x, ys with
  | .str a, [y] => match (seqv y h).bind strsOf with
    | some ss => if (ss.map (·.length)).sum + ss.length * a.length ≤ 16777216 then some (.ok (.str (Txt.join a ss)) h) else none
    | none => none
  | _, _ => none
theorem o_join : OpM K mJoin (rJoin K) := fun {W σ φ h H v x vs xs R Q} s r1 r2 e p => by
  unfold mJoin at e
  split at e
  · split at e
    · rename_i ss q
      split at e
      · cases e
        obtain ⟨w, rfl, rw_⟩ := one_inv r2
        obtain ⟨ys, q1, q2⟩ := Option.bind_eq_some_iff.mp q
        obtain ⟨a, ts, rfl, e4, r4⟩ := seqv_ok s q1 rw_
        have e5 := strs_ok q2 r4
        subst e5
        unfold Rv at r1
        subst r1
        exact ⟨_, a, ss, rfl, rfl, e4, by assumption, str_end s p⟩
      · cases e
    · cases e
  · cases e
def mSplit (b : Bool) (x : MV) (ys : List MV) : M MV := fun h => match x, ys with
  | .str a, [.str c] => if (c.length == 0) = false ∧ a.length + 2 ≤ sizeLine then mkl b ((Txt.split a c).map .str) h else none
  | _, _ => none
theorem o_split (b : Bool) : OpM K (mSplit b) (fun x xs H Q => ∃ a b, x = .str a ∧ xs = [.str b] ∧ (b.length == 0) = false ∧ a.length + 2 ≤ sizeLine ∧ rNewStrs (Txt.split a b) H Q) := fun {W σ φ h H v x vs xs R Q} s r1 r2 e p => by
  unfold mSplit at e
  split at e
  · split at e
    · rename_i hc
      obtain ⟨w, rfl, rw_⟩ := one_inv r2
      unfold Rv at r1 rw_
      subst r1 rw_
      exact ⟨_, _, rfl, rfl, hc.1, hc.2, end_mkl s (Rvs.map (fun z => by unfold Rv; rfl) _) e p⟩
    · cases e
  · cases e
end
/-! ### statements -/
def sNop : MS := fun g h => some (.nx g h)
def sSeq (A B : MS) : MS := fun g h => match A g h with
  | some (.nx g' h') => B g' h'
  | r => r
def sDrop (A : Sg → M MV) : MS := bs A fun _ g h => some (.nx g h)
def sRet (A : Sg → M MV) : MS := bs A fun x _ h => some (.rt x h)
def sRetN : MS := fun _ h => some (.rt .non h)
def sIf (T : Sg → M Bool) (A B : MS) : MS := bs T fun k => if k then A else B
def sBrk : MS := fun g h => some (.bk g h)
def sCnt : MS := fun g h => some (.ct g h)
def sSet (i : Nat) (A : Sg → M MV) : MS := bs A fun x g h => some (.nx (g.set i (some x)) h)
abbrev MT := MV → Sg → M Sg
def sAsg (A : Sg → M MV) (T : MT) : MS := bs A fun x g h => match T x g h with
  | some (.ok g' h') => some (.nx g' h')
  | some (.ex e h') => some (.ex e g h')
  | none => none
def tgM (K : PySem.W.Frag) (W : WX) (T : MT) : TG := fun v σ H Q => ∃ φ g h x r, Sim K φ h H ∧ Rg K φ H σ g ∧ Rv K φ H v x ∧ T x g h = some r ∧ Pg (Rg K) K W σ φ H Q r
def tgMs (K : PySem.W.Frag) (W : WX) (T : List MV → Sg → M Sg) : TGs := fun vs σ H Q => ∃ φ g h xs r, Sim K φ h H ∧ Rg K φ H σ g ∧ Rvs K φ H vs xs ∧ T xs g h = some r ∧ Pg (Rg K) K W σ φ H Q r
def gNm (i : Nat) : MT := fun x g h => some (.ok (g.set i (some x)) h)
def gNl : List MV → Sg → M Sg := fun xs g h => match xs with
  | [] => some (.ok g h)
  | _ => none
/-- names alone: no target of these raises -/
def gCn (T : MT) (U : List MV → Sg → M Sg) : List MV → Sg → M Sg := fun xs g h => match xs with
  | x :: xs => match T x g h with
    | some (.ok g' h') => match U xs g' h' with
      | some (.ok g2 h2) => some (.ok g2 h2)
      | _ => none
    | _ => none
  | _ => none
def gTp (n : Nat) (U : List MV → Sg → M Sg) : MT := fun x g h => match tpv x with
  | some xs => if xs.length = n then U xs g h else none
  | none => none
section
variable {X : Cx} {K : PySem.W.Frag} {W : WX} {a c o : Expr} {A B : Sg → M MV} {T : Sg → M Bool} {S U : MS} {st : Stmt} {rest body : List Stmt} {pos : Pos}
theorem psw {X : Cx} {st : Stmt} {t t' : TS} (h : PS X st t) (i : ∀ D σ H, t' D σ H → t D σ H) : PS X st t' := ⟨fun pins s σ H D I q => h.run pins s σ H D I (i D σ H q)⟩
theorem pssw {X : Cx} {st : List Stmt} {t t' : TS} (h : PSs X st t) (i : ∀ D σ H, t' D σ H → t D σ H) : PSs X st t' := ⟨fun pins s σ H D I q => h.run pins s σ H D I (i D σ H q)⟩
theorem pgw {X : Cx} {e : Expr} {t t' : TG} (h : PG X e t) (i : ∀ v σ H Q, t' v σ H Q → t v σ H Q) : PG X e t' := ⟨fun pins s σ H v u Q I r q => h.run pins s σ H v u Q I r (i v σ H Q q)⟩
theorem pgsw {X : Cx} {e : List Expr} {t t' : TGs} (h : PGs X e t) (i : ∀ v σ H Q, t' v σ H Q → t v σ H Q) : PGs X e t' := ⟨fun pins s σ H v u Q I r q => h.run pins s σ H v u Q I r (i v σ H Q q)⟩
theorem s_nil : PSs X [] (tS K W sNop) := pssw pss_nil fun D σ H ⟨φ, g, h, r, hs, hg, e, p⟩ => by
  cases e
  exact p σ φ H (Fr.refl _ _) hs hg
theorem seq_of : ∀ D σ H, tS K W (sSeq S U) D σ H → tSeq (tS K W S) (tS K W U) D σ H := fun D σ H ⟨φ, g, h, r, hs, hg, e, p⟩ => by
  unfold sSeq at e
  cases q : S g h with
  | none => rw [q] at e; cases e
  | some r0 =>
    refine ⟨φ, g, h, r0, hs, hg, q, ?_⟩
    rw [q] at e
    cases r0 with
    | nx g' h' => exact fun σ' φ' H' f s1 g1 => ⟨φ', g', h', r, s1, g1, e, p.mono f⟩
    | rt x h' => cases e; exact p
    | bk g' h' => cases e; exact p
    | ct g' h' => cases e; exact p
    | ex ee g' h' => cases e; exact p
theorem s_cons (h1 : PS X st (tS K W S)) (h2 : PSs X rest (tS K W U)) : PSs X (st :: rest) (tS K W (sSeq S U)) := pssw (pss_cons h1 h2) seq_of
theorem s_one (h1 : PS X st (tS K W S)) : PSs X [st] (tS K W S) := pss_one h1
theorem s_pass : PS X (.Pass pos) (tS K W sNop) := psw ps_pass fun D σ H ⟨φ, g, h, r, hs, hg, e, p⟩ => by
  cases e
  exact p σ φ H (Fr.refl _ _) hs hg
theorem s_brk : PS X (.Break pos) (tS K W sBrk) := psw ps_break fun D σ H ⟨φ, g, h, r, hs, hg, e, p⟩ => by
  cases e
  exact p σ φ H (Fr.refl _ _) hs hg
theorem s_cnt : PS X (.Continue pos) (tS K W sCnt) := psw ps_continue fun D σ H ⟨φ, g, h, r, hs, hg, e, p⟩ => by
  cases e
  exact p σ φ H (Fr.refl _ _) hs hg
theorem s_doc {x j pos pos'} : PS X (.Expr (.Constant (.str x) j pos) pos') (tS K W sNop) := psw ps_doc fun D σ H ⟨φ, g, h, r, hs, hg, e, p⟩ => by
  cases e
  exact p σ φ H (Fr.refl _ _) hs hg
theorem s_drop (ha : PE X a (tM K W A)) (hs : swapsWith a none pos.line X.env = pure false := by rfl) : PS X (.Expr a pos) (tS K W (sDrop A)) := psw (ps_expr ha hs) fun D σ H ⟨φ, g, h, r, hs, hg, e, p⟩ => bindS hs hg e p fun x h1 v φ1 H1 f1 s1 g1 r1 e1 p1 => by
  cases e1
  exact p1 σ φ1 H1 (Fr.refl _ _) s1 g1
theorem s_ret (ha : PE X a (tM K W A)) : PS X (.Return (some a) pos) (tS K W (sRet A)) := psw (ps_ret ha) fun D σ H ⟨φ, g, h, r, hs, hg, e, p⟩ => bindS hs hg e p fun x h1 v φ1 H1 f1 s1 g1 r1 e1 p1 => by
  cases e1
  exact p1 v φ1 H1 (Fr.refl _ _) s1 r1
theorem s_retN : PS X (.Return none pos) (tS K W sRetN) := psw ps_retN fun D σ H ⟨φ, g, h, r, hs, hg, e, p⟩ => by
  cases e
  exact p .non φ H (Fr.refl _ _) hs rv_n
theorem s_if {x y : List Stmt} (hc : PT X c (tMT K W T)) (ha : PSs X x (tS K W S)) (hb : PSs X y (tS K W U)) : PS X (.If c x y pos) (tS K W (sIf T S U)) := psw (ps_if hc ha hb) fun D σ H ⟨φ, g, h, r, hs, hg, e, p⟩ => bindS hs hg e p fun x h1 v φ1 H1 f1 s1 g1 r1 e1 p1 => by
  subst r1
  cases v with
  | true => exact ⟨φ1, g, h1, r, s1, g1, e1, p1⟩
  | false => exact ⟨φ1, g, h1, r, s1, g1, e1, p1⟩
theorem s_set {i : Nat} {x : Str} {pos' : Pos} (hN : X.N.Nodup) (hi : X.N[i]? = some x) (hx : Loc X.env.scope x) (ha : PE X a (tM K W A)) (hs : swapsWith a (some (.Name x pos')) pos.line X.env = pure false := by rfl) (hf : X.fn x = true ∨ X.env.scope.names.lookup x = some .local := by first | exact .inl rfl | exact .inr rfl | assumption) :
    PS X (.Assign [.Name x pos'] a pos) (tS K W (sSet i A)) := psw (ps_set hN hi hx ha hs hf) fun D σ H ⟨φ, g, h, r, hs, hg, e, p⟩ => bindS hs hg e p fun x h1 v φ1 H1 f1 s1 g1 r1 e1 p1 => by
  cases e1
  exact p1 _ φ1 H1 (Fr.refl _ _) s1 (g1.set r1)
theorem g_name {i : Nat} {x : Str} (hN : X.N.Nodup) (hi : X.N[i]? = some x) (hx : Loc X.env.scope x) (hf : X.fn x = true ∨ X.env.scope.names.lookup x = some .local := by first | exact .inl rfl | exact .inr rfl | assumption) : PG X (.Name x pos) (tgM K W (gNm i)) :=
  pgw (pg_name hN hi hx hf) fun v σ H Q ⟨φ, g, h, x, r, hs, hg, rv, e, p⟩ => by
    cases e
    exact p _ φ H (Fr.refl _ _) hs (hg.set rv)
theorem g_nil : PGs X [] (tgMs K W gNl) := pgsw pgs_nil fun v σ H Q ⟨φ, g, h, x, r, hs, hg, rv, e, p⟩ => by
  cases x with
  | nil =>
    cases e
    exact ⟨rvs_nilr rv, p σ φ H (Fr.refl _ _) hs hg⟩
  | cons _ _ => cases e
theorem g_cons {ta : Expr} {ts : List Expr} {T : MT} {U : List MV → Sg → M Sg} (h1 : PG X ta (tgM K W T)) (h2 : PGs X ts (tgMs K W U)) (he : (assignEach (ta :: ts) X.env).map (·.2) = assign ta X.env :: (assignEach ts X.env).map (·.2) := by rfl) : PGs X (ta :: ts) (tgMs K W (gCn T U)) := pgsw (pgs_cons h1 h2 he) fun vs σ H Q ⟨φ, g, h, xs, r, hs, hg, rv, e, p⟩ => by
  unfold gCn at e
  split at e
  · rename_i x xs
    obtain ⟨v, t, rfl, ra, rb⟩ := rvs_invr rv
    split at e
    · rename_i g' h' q
      split at e
      · rename_i g2 h2 q2
        cases e
        refine ⟨v, t, rfl, φ, g, h, x, _, hs, hg, ra, q, fun σ1 φ1 H1 f1 s1 g1 => ⟨φ1, g', h', xs, _, s1, g1, hs.rvs f1 rb, q2, ?_⟩⟩
        exact fun σ2 φ2 H2 f2 s2 g2 => p σ2 φ2 H2 (f1.trans f2) s2 g2
      · cases e
    · cases e
  · cases e
theorem g_tup {ts : List Expr} {k n : Nat} {U : List MV → Sg → M Sg} (ek : X.K = K) (hc : X.calm = true) (h : PGs X ts (tgMs K W U)) (hn : (assignEach ts X.env).length = n := by rfl) (hst : (assignEach ts X.env).findIdx? (·.1) = none := by rfl) : PG X (.Tuple ts k pos) (tgM K W (gTp n U)) := by
  subst ek
  exact pgw (pg_tup hc h hn hst) fun v σ H Q ⟨φ, g, h, x, r, hs, hg, rv, e, p⟩ => by
    unfold gTp at e
    split at e
    · rename_i xs q
      split at e
      · rename_i hl
        obtain ⟨a, vs, rfl, qa, ra⟩ := tpv_ok q rv
        exact ⟨a, vs, rfl, qa, by rw [ra.length]; exact hl, φ, g, h, xs, r, hs, hg, ra, e, p⟩
      · cases e
    · cases e
theorem s_asg {tg : Expr} {G : MT} (ha : PE X a (tM K W A)) (hg : PG X tg (tgM K W G)) (hs : swapsWithSole [tg] a pos.line X.env = pure false := by rfl) (hw : swappedStores [tg] a X.env = pure none := by rfl) (h1 : (assignEach [tg] X.env).map (·.2) = [assign tg X.env] := by rfl) : PS X (.Assign [tg] a pos) (tS K W (sAsg A G)) :=
  psw (ps_asg ha hg hs hw h1) fun D σ H ⟨φ, g, h, r, hs, hg, e, p⟩ => bindS hs hg e p fun x h1 v φ1 H1 f1 s1 g1 r1 e1 p1 => by
    split at e1
    · rename_i g' h' q
      cases e1
      exact ⟨φ1, g, h1, x, _, s1, g1, r1, q, fun σ2 φ2 H2 f2 s2 g2 => p1 σ2 φ2 H2 f2 s2 g2⟩
    · rename_i ee h' q
      cases e1
      exact ⟨φ1, g, h1, x, _, s1, g1, r1, q, fun C d φ2 H2 f2 s2 re => p1 σ C d φ2 H2 f2 s2 (g1.mono s1.lv f2) re⟩
    · cases e1
end
end Mi
/-! Mi: stores, loops, comprehensions -/
namespace Mi
open PySem PySem.Spec PyProof.Rows L2 Ob StX

/-! ### stores -/
def sPar (i j : Nat) (As : Sg → M (List MV)) : MS := bs As fun xs g h => match xs with
  | [x, y] => some (.nx ((g.set i (some x)).set j (some y)) h)
  | _ => none
def sPar3 (i j l : Nat) (As : Sg → M (List MV)) : MS := bs As fun xs g h => match xs with
  | [x, y, z] => some (.nx (((g.set i (some x)).set j (some y)).set l (some z)) h)
  | _ => none
/-- o[i] = v, of a list, a dict -/
def stoM (v o i : MV) (h : Mh) : Option Mh := match o with
  | .ref n => match h[n]? with
    | some (.lst xs) => match i with
      | .int k => (ixN xs.length k).map fun j => h.set n (.lst (xs.set j v))
      | _ => none
    | some (.dK kvs) => (keyOf i).bind fun k => if kvs.length < sizeLine then some (h.set n (.dK (putM kvs k v))) else none
    | some (.dT kvs) => match i with
      | .tup ys => (keysOf ys).bind fun k => if kvs.length < sizeLine then some (h.set n (.dT (putM kvs k v))) else none
      | _ => none
    | _ => none
  | _ => none
def sSto (V O I : Sg → M MV) : MS := bs V fun v => bs O fun o => bs I fun i g h => (stoM v o i h).map fun h' => .nx g h'
/-- o.f = v -/
def insN (x : MV) (h : Mh) : Option (Nat × Str × List (Str × MV)) := match x with
  | .ref n => match h[n]? with
    | some (.ins c fs) => some (n, c, fs)
    | _ => none
  | _ => none
def sFldM (cs : List Str) (f : Str) (V O : Sg → M MV) : MS := bs V fun v => bs O fun o g h => match insN o h with
  | some (n, c, gs) => if c ∈ cs ∧ gs.length < 1000 then some (.nx g (h.set n (.ins c (putN f v gs)))) else none
  | none => none
/-- x += e of ints -/
def sAug (i : Nat) (f : Int → Int → Int) (A : Sg → M MV) : MS := fun g h => match g[i]? with
  | some (some (.int x)) => bs A (fun y g h => match y with
    | .int y => some (.nx (g.set i (some (.int (f x y)))) h)
    | _ => none) g h
  | _ => none
/-- del o[i] -/
def sDel (O I : Sg → M MV) : MS := bs O fun o => bs I fun i g h => match lstAt o h, i with
  | some (n, xs), .int j => if -(2 ^ 63) ≤ j ∧ j < 2 ^ 63 then (seqIndex? j xs.length).map fun k => .nx g (h.set n (.lst (xs.eraseIdx k))) else none
  | _, _ => none
section
variable {X : Cx} {K : PySem.W.Frag} {W : WX} {a b c o i e : Expr} {A B Va O I : Sg → M MV} {pos pos' : Pos}
theorem s_par {i j : Nat} {x y : Str} {As : Sg → M (List MV)} {px py pt : Pos} {kt k2 pt2} (hc : X.calm = true) (hN : X.N.Nodup) (hi : X.N[i]? = some x) (hj : X.N[j]? = some y) (hij : i ≠ j) (hx : X.env.scope.names.lookup x = some .local) (hy : X.env.scope.names.lookup y = some .local)
    (ha : PA X [a, b] (tMA K W As)) (hw : swappedStores [.Tuple [.Name x px, .Name y py] kt pt] (.Tuple [a, b] k2 pt2) X.env = pure (some [x, y])) (hs : swapsWithSole [.Tuple [.Name x px, .Name y py] kt pt] (.Tuple [a, b] k2 pt2) pos.line X.env = pure false := by rfl) :
    PS X (.Assign [.Tuple [.Name x px, .Name y py] kt pt] (.Tuple [a, b] k2 pt2) pos) (tS K W (sPar i j As)) := psw (ps_par hc hN hi hj hij hx hy ha hw hs) fun D σ H ⟨φ, g, h, r, hs, hg, e, p⟩ => bindS hs hg e p fun x h1 v φ1 H1 f1 s1 g1 r1 e1 p1 => by
  split at e1
  · cases e1
    obtain ⟨v, w, rfl, rv, rw_⟩ := two_inv r1
    exact ⟨v, w, rfl, p1 _ φ1 H1 (Fr.refl _ _) s1 ((g1.set rv).set rw_)⟩
  · cases e1
theorem s_par3 {i j l : Nat} {x y z : Str} {As : Sg → M (List MV)} {px py pz pt : Pos} {kt k2 pt2} (hc : X.calm = true) (hN : X.N.Nodup) (hi : X.N[i]? = some x) (hj : X.N[j]? = some y) (hl : X.N[l]? = some z) (hij : i ≠ j) (hil : i ≠ l) (hjl : j ≠ l)
    (hx : X.env.scope.names.lookup x = some .local) (hy : X.env.scope.names.lookup y = some .local) (hz : X.env.scope.names.lookup z = some .local) (ha : PA X [a, b, c] (tMA K W As))
    (hw : swappedStores [.Tuple [.Name x px, .Name y py, .Name z pz] kt pt] (.Tuple [a, b, c] k2 pt2) X.env = pure (some [x, y, z])) (hs : swapsWithSole [.Tuple [.Name x px, .Name y py, .Name z pz] kt pt] (.Tuple [a, b, c] k2 pt2) pos.line X.env = pure false := by rfl) :
    PS X (.Assign [.Tuple [.Name x px, .Name y py, .Name z pz] kt pt] (.Tuple [a, b, c] k2 pt2) pos) (tS K W (sPar3 i j l As)) := psw (ps_par3 hc hN hi hj hl hij hil hjl hx hy hz ha hw hs) fun D σ H ⟨φ, g, h, r, hs, hg, e, p⟩ => bindS hs hg e p fun x h1 v φ1 H1 f1 s1 g1 r1 e1 p1 => by
  split at e1
  · cases e1
    obtain ⟨v, t, rfl, rv, rt⟩ := rvs_invr r1
    obtain ⟨w, u, rfl, rw_, ru⟩ := two_inv rt
    exact ⟨v, w, u, rfl, p1 _ φ1 H1 (Fr.refl _ _) s1 (((g1.set rv).set rw_).set ru)⟩
  · cases e1
end
section
variable {X : Cx} {K : PySem.W.Frag} {W : WX} {a b c o i e : Expr} {A B Va O I : Sg → M MV} {pos pos' : Pos}
/-- what a store does -/
theorem sto_ok {φ : Ph} {h h' : Mh} {H : Hp} {x y z : V} {v o i : MV} (s : Sim K φ h H) (rv : Rv K φ H x v) (ro : Rv K φ H y o) (ri : Rv K φ H z i) (e : stoM v o i h = some h') :
    (∀ Q : Hp → Prop, (∀ H', Fr φ φ H H' → Sim K φ h' H' → Q H') → rSetL y z x H Q) ∨ ∃ a H', y = .ref a ∧ DPut H a z x H' ∧ Fr φ φ H H' ∧ Sim K φ h' H' := by
  unfold stoM at e
  split at e
  · split at e
    · rename_i q
      split at e
      · obtain ⟨j, hj, e⟩ := Option.map_eq_some_iff.mp e
        subst e
        obtain ⟨a, u, rfl, e2, e3, r3⟩ := s.ref ro q
        unfold Rv at ri
        subst ri
        cases u with
        | lst vs =>
          refine .inl fun Q k => ⟨a, vs, _, j, rfl, rfl, e3, by rw [Rvs.length r3]; exact hj, k _ (Fr.put (List.mem_of_getElem? e2)) (s.put e2 ?_)⟩
          exact Rvs.set rv j r3
        | _ => exact r3.elim
      · cases e
    · rename_i q
      obtain ⟨k, hk, e⟩ := Option.bind_eq_some_iff.mp e
      split at e
      · rename_i hl
        cases e
        obtain ⟨a, u, rfl, e2, e3, r3⟩ := s.ref ro q
        have e4 := keyOf_ok hk ri
        subst e4
        cases u with
        | dK kvs =>
          refine .inr ⟨a, _, rfl, DPut.k e3 ?_, Fr.put (List.mem_of_getElem? e2), s.put e2 (put_ok rv r3.1 r3.2)⟩
          have := congrArg List.length r3.1
          rw [List.length_map, List.length_map] at this
          omega
        | _ => exact r3.elim
      · cases e
    · rename_i q
      split at e
      · obtain ⟨k, hk, e⟩ := Option.bind_eq_some_iff.mp e
        split at e
        · rename_i hl
          cases e
          obtain ⟨a, u, rfl, e2, e3, r3⟩ := s.ref ro q
          unfold Rv at ri
          obtain ⟨b, ws, rfl, hb, rs⟩ := ri
          have e4 := keysOf_ok hk rs
          subst e4
          cases u with
          | dT kvs =>
            refine .inr ⟨a, _, rfl, DPut.t e3 hb ?_, Fr.put (List.mem_of_getElem? e2), s.put e2 (put_ok rv r3.1 r3.2)⟩
            have := congrArg List.length r3.1
            rw [List.length_map, List.length_map] at this
            omega
          | _ => exact r3.elim
        · cases e
      · cases e
    · cases e
  · cases e
theorem ps_or {X : Cx} {st : Stmt} {t u v : TS} (h1 : ∀ D σ H, v D σ H → t D σ H ∨ u D σ H) (a : PS X st t) (b : PS X st u) : PS X st v := ⟨fun pins s σ H D I q => (h1 D σ H q).elim (a.run pins s σ H D I) (b.run pins s σ H D I)⟩
/-- is it a list -/
def isLst (o : MV) (h : Mh) : Bool := (lstAt o h).isSome
def sStoIf (k : Bool) (Vb O I : Sg → M MV) : MS := bs Vb fun v => bs O fun o => bs I fun i g h => if isLst o h = k then (stoM v o i h).map fun h' => .nx g h' else none
theorem sto_or : ∀ D σ H, tS K W (sSto Va O I) D σ H → tS K W (sStoIf true Va O I) D σ H ∨ tS K W (sStoIf false Va O I) D σ H := fun D σ H ⟨φ, g, h, r, hs, hg, e, p⟩ => by
  unfold sSto bs at e
  have st : ∀ k, sStoIf k Va O I g h = bs Va (fun v => bs O fun o => bs I fun i g h => if isLst o h = k then (stoM v o i h).map fun h' => SR.nx g h' else none) g h := fun k => rfl
  cases q1 : Va g h with
  | none => rw [q1] at e; cases e
  | some r1 =>
    rw [q1] at e
    cases r1 with
    | ex ee h1 => exact .inl ⟨φ, g, h, r, hs, hg, by rw [st]; unfold bs; rw [q1]; exact e, p⟩
    | ok v h1 =>
      dsimp only at e
      cases q2 : O g h1 with
      | none => rw [q2] at e; cases e
      | some r2 =>
        rw [q2] at e
        cases r2 with
        | ex ee h2 => exact .inl ⟨φ, g, h, r, hs, hg, by rw [st]; unfold bs; rw [q1]; dsimp only; rw [q2]; exact e, p⟩
        | ok o h2 =>
          dsimp only at e
          cases q3 : I g h2 with
          | none => rw [q3] at e; cases e
          | some r3 =>
            rw [q3] at e
            cases r3 with
            | ex ee h3 => exact .inl ⟨φ, g, h, r, hs, hg, by rw [st]; unfold bs; rw [q1]; dsimp only; rw [q2]; dsimp only; rw [q3]; exact e, p⟩
            | ok i h3 =>
              dsimp only at e
              cases q4 : isLst o h3 with
              | true => exact .inl ⟨φ, g, h, r, hs, hg, by rw [st]; unfold bs; rw [q1]; dsimp only; rw [q2]; dsimp only; rw [q3]; dsimp only; rw [q4, if_pos rfl]; exact e, p⟩
              | false => exact .inr ⟨φ, g, h, r, hs, hg, by rw [st]; unfold bs; rw [q1]; dsimp only; rw [q2]; dsimp only; rw [q3]; dsimp only; rw [q4, if_pos rfl]; exact e, p⟩
theorem isLst_put {φ : Ph} {h : Mh} {H H' : Hp} {o : MV} {a : Addr} {z x : V} (s : Sim K φ h H) (ro : Rv K φ H (.ref a) o) (q : isLst o h = true) (d : DPut H a z x H') : False := by
  obtain ⟨⟨n, xs⟩, q⟩ := Option.isSome_iff_exists.mp q
  obtain ⟨b, vs, e1, _, e3, _⟩ := lstAt_ok s ro q
  cases e1
  rcases d with ⟨kvs, k, e, _⟩ | ⟨kvs, k, b, e, _⟩
  · rw [e3] at e; cases e
  · rw [e3] at e; cases e
theorem isLst_set {φ : Ph} {h : Mh} {H : Hp} {y z x : V} {o : MV} {Q : Hp → Prop} (s : Sim K φ h H) (ro : Rv K φ H y o) (q : isLst o h = false) (d : rSetL y z x H Q) (ho : ∃ n, o = .ref n) : False := by
  obtain ⟨a, xs, k, j, rfl, rfl, e, _⟩ := d
  obtain ⟨n, rfl⟩ := ho
  have hn : n < h.length := by
    unfold Rv at ro
    obtain ⟨b, e1, e2⟩ := ro
    rw [← s.len]
    exact (List.getElem?_eq_some_iff.mp e2).1
  obtain ⟨b, u, e1, e2, e3, r3⟩ := s.ref ro (List.getElem?_eq_getElem hn)
  cases e1
  rw [e] at e3
  cases e3
  cases w : h[n] with
  | lst ys =>
    unfold isLst lstAt at q
    simp only [List.getElem?_eq_getElem hn, w] at q
    cases q
  | _ => rw [w] at r3; exact r3.elim
theorem s_sto (hu : X.A.units + 1 < cLine) (hv : PE X e (tM K W Va)) (ho : PE X o (tM K W O)) (hi : PE X i (tM K W I)) (hs : swapsWith e (some (.Subscript o i pos')) pos.line X.env = pure false := by rfl)
    (hs2 : swapsWithSole [.Subscript o i pos'] e pos.line X.env = pure false := by rfl) (hw : swappedStores [.Subscript o i pos'] e X.env = pure none := by rfl) (h1 : (assignEach [.Subscript o i pos'] X.env).map (·.2) = [assign (.Subscript o i pos') X.env] := by rfl)
    (hp : PG X (.Subscript o i pos') (gSub (tM K W O) (tM K W I) rSetL)) : PS X (.Assign [.Subscript o i pos'] e pos) (tS K W (sSto Va O I)) := by
  refine ps_or sto_or ?_ ?_
  · exact psw (ps_asg hv hp hs2 hw h1) fun D σ H ⟨φ, g, h, r, hs, hg, e, p⟩ => bindS hs hg e p fun v h1 x φ1 H1 f1 s1 g1 r1 e1 p1 => bindS s1 g1 e1 p1 fun o h2 y φ2 H2 f2 s2 g2 r2 e2 p2 => bindS s2 g2 e2 p2 fun i h3 z φ3 H3 f3 s3 g3 r3 e3 p3 => by
      split at e3
      · rename_i ql
        obtain ⟨h', q, e3⟩ := Option.map_eq_some_iff.mp e3
        subst e3
        rcases sto_ok s3 (s1.rv (f2.trans f3) r1) (s2.rv f3 r2) r3 q with k | ⟨a, H', rfl, d, _⟩
        · exact k _ fun H' f s4 => p3 _ φ3 H' f s4 (g3.mono s3.lv f)
        · exact (isLst_put s3 (s2.rv f3 r2) ql d).elim
      · cases e3
  · exact psw (ps_dput hu ho hi hv hs) fun D σ H ⟨φ, g, h, r, hs, hg, e, p⟩ => bindS hs hg e p fun v h1 x φ1 H1 f1 s1 g1 r1 e1 p1 => bindS s1 g1 e1 p1 fun o h2 y φ2 H2 f2 s2 g2 r2 e2 p2 => bindS s2 g2 e2 p2 fun i h3 z φ3 H3 f3 s3 g3 r3 e3 p3 => by
      split at e3
      · rename_i ql
        obtain ⟨h', q, e3⟩ := Option.map_eq_some_iff.mp e3
        subst e3
        rcases sto_ok s3 (s1.rv (f2.trans f3) r1) (s2.rv f3 r2) r3 q with k | ⟨a, H', rfl, d, f, s4⟩
        · refine (isLst_set s3 (s2.rv f3 r2) ql (k (fun _ => True) fun _ _ _ => trivial) ?_).elim
          unfold stoM at q
          split at q
          · exact ⟨_, rfl⟩
          · cases q
        · exact ⟨a, H', rfl, d, p3 _ φ3 H' f s4 (g3.mono s3.lv f)⟩
      · cases e3
theorem insN_ok {φ : Ph} {h : Mh} {H : Hp} {v : V} {x : MV} {n : Nat} {c : Str} {gs : List (Str × MV)} (s : Sim K φ h H) (r : Rv K φ H v x) (e : insN x h = some (n, c, gs)) :
    ∃ a dx fs, v = .ref a ∧ φ.a[n]? = some a ∧ H a = some (.ins (He.ga K c) dx fs) ∧ fs.map (·.1) = gs.map (·.1) ∧ Rvs K φ H (fs.map (·.2)) (gs.map (·.2)) := by
  unfold insN at e
  split at e
  · split at e
    · rename_i o
      cases e
      obtain ⟨a, u, rfl, e1, e2, ro⟩ := s.ref r o
      cases u with
      | ins C dx fs =>
        obtain ⟨rfl, h1, h2⟩ := ro
        exact ⟨a, dx, fs, rfl, e1, e2, h1, h2⟩
      | _ => exact ro.elim
    · cases e
  · cases e
theorem putN_ok {φ : Ph} {H : Hp} {v : V} {x : MV} {f : Str} (a : Rv K φ H v x) : ∀ {gs : List (Str × MV)} {fs : List (Str × V)}, fs.map (·.1) = gs.map (·.1) → Rvs K φ H (fs.map (·.2)) (gs.map (·.2)) →
    (putF f v fs).map (·.1) = (putN f x gs).map (·.1) ∧ Rvs K φ H ((putF f v fs).map (·.2)) ((putN f x gs).map (·.2))
  | [], [], _, _ => ⟨rfl, rvs_cons a rvs_nil⟩
  | [], _ :: _, e, _ => by cases e
  | _ :: _, [], e, _ => by cases e
  | (q1, q2) :: gs, (p1, p2) :: fs, e, r => by
    simp only [List.map_cons, List.cons.injEq] at e
    obtain ⟨e1, e2⟩ := e
    subst e1
    obtain ⟨c, b⟩ := rvs_inv (by simpa using r)
    unfold putF putN
    by_cases hf : p1 = f
    · rw [if_pos hf, if_pos hf]
      exact ⟨by simp [e2], rvs_cons a b⟩
    · rw [if_neg hf, if_neg hf]
      obtain ⟨i1, i2⟩ := putN_ok a e2 b
      exact ⟨by simp [i1], rvs_cons c i2⟩
theorem s_fld {cs : List Str} {f : Str} (ek : X.K = K) (hC : AllC K f cs) (hv : PE X e (tM K W Va)) (ho : PE X o (tM K W O)) (hs : swapsWith e (some (.Attribute o f pos')) pos.line X.env = pure false := by rfl) : PS X (.Assign [.Attribute o f pos'] e pos) (tS K W (sFldM cs f Va O)) := by
  subst ek
  exact psw (ps_fld ho hv hs) fun D σ H ⟨φ, g, h, r, hs, hg, e, p⟩ => bindS hs hg e p fun v h1 x φ1 H1 f1 s1 g1 r1 e1 p1 => bindS s1 g1 e1 p1 fun o h2 y φ2 H2 f2 s2 g2 r2 e2 p2 => by
    split at e2
    · rename_i n c gs q
      split at e2
      · rename_i hc
        cases e2
        obtain ⟨a, dx, fs, rfl, e3, e4, e5, e6⟩ := insN_ok s2 r2 q
        have hl : fs.length = gs.length := by
          have := congrArg List.length e5
          rwa [List.length_map, List.length_map] at this
        have f3 : Fr φ2 φ2 H2 (upd H2 a (.ins (He.ga X.K c) dx (putF f x fs))) := Fr.put (List.mem_of_getElem? e3)
        obtain ⟨k1, k2⟩ := putN_ok (f := f) (s1.rv f2 r1) e5 e6
        exact ⟨a, _, dx, fs, rfl, e4, (hC.at hc.1).1, (hC.at hc.1).2, by rw [hl]; exact hc.2, p2 _ φ2 _ f3 (s2.put e3 (show Ro X.K φ2 H2 (.ins (He.ga X.K c) dx (putF f x fs)) (.ins c (putN f v gs)) from ⟨rfl, k1, k2⟩)) (g2.mono s2.lv f3)⟩
      · cases e2
    · cases e2
theorem s_aug {i : Nat} {x : Str} {op : Operator} {f : Int → Int → Int} (hN : X.N.Nodup) (hi : X.N[i]? = some x) (hx : Loc X.env.scope x) (ha : PE X a (tM K W A)) (ho : PIp X op (ipI f)) (hf : X.fn x = true ∨ X.env.scope.names.lookup x = some .local := by first | exact .inl rfl | exact .inr rfl | assumption) :
    PS X (.AugAssign (.Name x pos') op a pos) (tS K W (sAug i f A)) := psw (ps_aug hN hi hx ha ho hf) fun D σ H ⟨φ, g, h, r, hs, hg, e, p⟩ => by
  unfold sAug at e
  split at e
  · rename_i n q
    obtain ⟨u, e1, e2⟩ := hg.get i _ q
    unfold Rv at e2
    subst e2
    refine ⟨_, e1, bindS hs hg e p fun y h1 v φ1 H1 f1 s1 g1 r1 e1 p1 => ?_⟩
    split at e1
    · cases e1
      unfold Rv at r1
      exact ⟨_, _, rfl, r1, p1 _ φ1 H1 (Fr.refl _ _) s1 (g1.set (by unfold Rv; rfl))⟩
    · cases e1
  · cases e
theorem s_del (ho : PE X o (tM K W O)) (hi : PE X i (tM K W I)) : PS X (.Delete [.Subscript o i pos'] pos) (tS K W (sDel O I)) := psw (ps_delL ho hi) fun D σ H ⟨φ, g, h, r, hs, hg, e, p⟩ => bindS hs hg e p fun o h1 y φ1 H1 f1 s1 g1 r1 e1 p1 => bindS s1 g1 e1 p1 fun i h2 z φ2 H2 f2 s2 g2 r2 e2 p2 => by
  split at e2
  · rename_i n xs j q
    split at e2
    · rename_i hc
      obtain ⟨k, hk, e2⟩ := Option.map_eq_some_iff.mp e2
      subst e2
      unfold Rv at r2
      obtain ⟨a, vs, rfl, e3, e4, e5⟩ := lstAt_ok s2 (s1.rv f2 r1) q
      have f3 : Fr φ2 φ2 H2 (upd H2 a (.lst (vs.eraseIdx k))) := Fr.put (List.mem_of_getElem? e3)
      exact ⟨a, vs, j, k, rfl, r2, e4, hc.1, hc.2, by rw [e5.length]; exact hk, p2 _ φ2 _ f3 (s2.put e3 (show Ro K φ2 H2 (.lst (vs.eraseIdx k)) (.lst (xs.eraseIdx k)) from e5.erase k)) (g2.mono s2.lv f3)⟩
    · cases e2
  · cases e2
end
end Mi
/-! Mi: loops, comprehensions, defs -/
namespace Mi
open PySem PySem.Spec PyProof.Rows L2 Ob StX

/-! ### what is walked: at turn i: an item, or the end -/
abbrev MIt := Nat → Mh → Option (Option MV)
@[irreducible] def FUEL : Nat := 1000000000000
theorem FUEL_eq : FUEL = 1000000000000 := by unfold FUEL; rfl
def itC (xs : List MV) : MIt := fun i _ => some xs[i]?
def itH (n : Nat) : MIt := fun i h => match h[n]? with
  | some (.lst xs) => some xs[i]?
  | _ => none
def itEn (it : MIt) : MIt := fun i h => (it i h).map fun o => o.map fun x => .tup [.int (i : Nat), x]
def relIt (K : PySem.W.Frag) (φ : Ph) (H : Hp) (J : It) (it : MIt) : Prop := ∀ φ' H' h' i, FrB φ φ' H H' → Sim K φ' h' H' →
  (it i h' = some none → J.stop i H') ∧ ∀ x, it i h' = some (some x) → J.go i H' ∧ ∀ v H'', J.yld i H' v H'' → Fr φ' φ' H' H'' ∧ Sim K φ' h' H'' ∧ Rv K φ' H'' v x
abbrev tI (K : PySem.W.Frag) (W : WX) (I : Sg → M MIt) : TI := fun σ H R => tG (relIt K) K W I σ H R
def iAny (x : MV) : M MIt := fun h => match tpv x with
  | some xs => some (.ok (itC xs) h)
  | none => match x with
    | .tl xs => some (.ok (itC xs) h)
    | .rol xs => some (.ok (itC xs) h)
    | .ref n => match h[n]? with
      | some (.lst _) => some (.ok (itH n) h)
      | _ => none
    | .str z => some (.ok (itC (z.cps.toList.map fun c => .str ⟨#[c]⟩)) h)
    | _ => none
def iSeq (x : MV) : M MIt := fun h => match tpv x with
  | some xs => some (.ok (itC xs) h)
  | none => match x with
    | .tl xs => some (.ok (itC xs) h)
    | .rol xs => some (.ok (itC xs) h)
    | .ref n => match h[n]? with
      | some (.lst _) => some (.ok (itH n) h)
      | _ => none
    | _ => none
def rngM (lo : Int) (n : Nat) : List MV := (List.range n).map fun i : Nat => .int (lo + (i : Int))
def iRange1 (xs : List MV) : M MIt := fun h => match xs with
  | [.int j] => if -(2 ^ 62) ≤ j ∧ j < 2 ^ 62 then some (.ok (itC (rngM 0 j.toNat)) h) else none
  | _ => none
def iRange2 (xs : List MV) : M MIt := fun h => match xs with
  | [.int i, .int j] => if -(2 ^ 62) ≤ i ∧ i < 2 ^ 62 ∧ -(2 ^ 62) ≤ j ∧ j < 2 ^ 62 then some (.ok (itC (rngM i (j - i).toNat)) h) else none
  | _ => none
theorem PIw {X : Cx} {tg e : Expr} {t t' : TI} (h : PI X tg e t) (i : ∀ σ H R, t' σ H R → t σ H R) : PI X tg e t' := ⟨fun pins s σ H R I q => h.run pins s σ H R I (i σ H R q)⟩
theorem PI.or3 {X : Cx} {tg e : Expr} {t u v : TI} (h1 : ∀ σ H R, v σ H R → t σ H R ∨ u σ H R) (a : PI X tg e t) (b : PI X tg e u) : PI X tg e v := ⟨fun pins s σ H R I q => (h1 σ H R q).elim (a.run pins s σ H R I) (b.run pins s σ H R I)⟩
section
variable {K : PySem.W.Frag} {φ : Ph} {h : Mh} {H : Hp}
theorem itC_list {a : Addr} {vs : List V} {xs : List MV} {u : HO} (st : ∀ φ' H', FrB φ φ' H H' → SqL K H' a vs) (s : Sim K φ h H) (r : Rvs K φ H vs xs) : relIt K φ H (Itl K a) (itC xs) := fun φ' H' h' i f s' => by
  have q := st φ' H' f
  have r' := s.rvsB f r
  refine ⟨fun e => ?_, fun x e => ?_⟩
  · unfold itC at e
    have e1 : xs[i]? = none := Option.some.inj e
    have e2 := List.getElem?_eq_none_iff.mp e1
    exact ⟨vs, q, by rw [r'.length]; exact e2⟩
  · unfold itC at e
    have e1 : xs[i]? = some x := Option.some.inj e
    obtain ⟨v, e2, e3⟩ := r'.get e1
    refine ⟨⟨vs, v, q, e2⟩, fun w H'' y => ?_⟩
    obtain ⟨rfl, y⟩ := y
    have e4 := y vs q
    rw [e2] at e4
    cases e4
    exact ⟨Fr.refl _ _, s', e3⟩
theorem itC_tup {a : Addr} {vs : List V} {xs : List MV} (st : ∀ φ' H', FrB φ φ' H H' → SqT K H' a vs) (s : Sim K φ h H) (r : Rvs K φ H vs xs) : relIt K φ H (Itt K a) (itC xs) := fun φ' H' h' i f s' => by
  have q := st φ' H' f
  have r' := s.rvsB f r
  refine ⟨fun e => ?_, fun x e => ?_⟩
  · unfold itC at e
    have e1 : xs[i]? = none := Option.some.inj e
    have e2 := List.getElem?_eq_none_iff.mp e1
    exact ⟨vs, q, by rw [r'.length]; exact e2⟩
  · unfold itC at e
    have e1 : xs[i]? = some x := Option.some.inj e
    obtain ⟨v, e2, e3⟩ := r'.get e1
    refine ⟨⟨vs, v, q, e2⟩, fun w H'' y => ?_⟩
    obtain ⟨rfl, y⟩ := y
    have e4 := y vs q
    rw [e2] at e4
    cases e4
    exact ⟨Fr.refl _ _, s', e3⟩
theorem itH_list {a : Addr} {n : Nat} (e : φ.a[n]? = some a) : relIt K φ H (Itl K a) (itH n) := fun φ' H' h' i f s' => by
  have e' : φ'.a[n]? = some a := by
    obtain ⟨t, et⟩ := f.pre
    rw [← et, List.getElem?_append_left (List.getElem?_eq_some_iff.mp e).1]
    exact e
  obtain ⟨u, o, h1, h2, ro⟩ := s'.ob n a e'
  refine ⟨fun q => ?_, fun x q => ?_⟩
  · unfold itH at q
    rw [h1] at q
    cases o with
    | lst xs =>
      cases u with
      | lst vs =>
        have e1 : xs[i]? = none := Option.some.inj q
        have e2 := List.getElem?_eq_none_iff.mp e1
        exact ⟨vs, SqL.of h2, by rw [Rvs.length ro]; exact e2⟩
      | _ => exact ro.elim
    | _ => cases q
  · unfold itH at q
    rw [h1] at q
    cases o with
    | lst xs =>
      cases u with
      | lst vs =>
        have e1 : xs[i]? = some x := Option.some.inj q
        obtain ⟨v, e2, e3⟩ := Rvs.get ro e1
        refine ⟨⟨vs, v, SqL.of h2, e2⟩, fun w H'' y => ?_⟩
        obtain ⟨rfl, y⟩ := y
        have e4 := y vs (SqL.of h2)
        rw [e2] at e4
        cases e4
        exact ⟨Fr.refl _ _, s', e3⟩
      | _ => exact ro.elim
    | _ => cases q
theorem itC_str {z : Str} : relIt K φ H (Its z) (itC (z.cps.toList.map fun c => .str ⟨#[c]⟩)) := fun φ' H' h' i f s' => by
  refine ⟨fun e => ?_, fun x e => ?_⟩
  · unfold itC at e
    have e1 := Option.some.inj e
    have e2 := List.getElem?_eq_none_iff.mp e1
    show z.cps.size ≤ i
    simpa using e2
  · unfold itC at e
    have e1 := Option.some.inj e
    rw [List.getElem?_map] at e1
    obtain ⟨c, e2, e3⟩ := Option.map_eq_some_iff.mp e1
    subst e3
    have hi : i < z.cps.size := by
      have := (List.getElem?_eq_some_iff.mp e2).1
      simpa using this
    refine ⟨hi, fun w H'' y => ?_⟩
    obtain ⟨rfl, d, h1, rfl⟩ := y
    have e4 : z.cps.toList[i]? = some d := by simpa using h1
    rw [e2] at e4
    cases e4
    exact ⟨Fr.refl _ _, s', by unfold Rv; rfl⟩
theorem itC_rng {lo : Int} {n : Nat} : relIt K φ H (Itr lo n) (itC (rngM lo n)) := fun φ' H' h' i f s' => by
  refine ⟨fun e => ?_, fun x e => ?_⟩
  · unfold itC at e
    have e1 := Option.some.inj e
    have e2 := List.getElem?_eq_none_iff.mp e1
    show n ≤ i
    simpa [rngM] using e2
  · unfold itC at e
    have e1 := Option.some.inj e
    have hi : i < n := by
      have := (List.getElem?_eq_some_iff.mp e1).1
      simpa [rngM] using this
    have e2 : x = .int (lo + i) := by
      have : (rngM lo n)[i]? = some (.int (lo + i)) := by simp [rngM, hi]
      rw [this] at e1
      exact (Option.some.inj e1).symm
    subst e2
    refine ⟨hi, fun w H'' y => ?_⟩
    obtain ⟨rfl, rfl⟩ := y
    exact ⟨Fr.refl _ _, s', by unfold Rv; rfl⟩
end
section
variable {X : Cx} {K : PySem.W.Frag} {W : WX} {tg a b : Expr} {A B : Sg → M MV} {As : Sg → M (List MV)} {I : Sg → M MIt} {es : List Expr} {pos : Pos}
theorem i_one {α : Type} {x : α} {φ : Ph} {H : Hp} {h : Mh} {σ : L2.St} {J : It} {it : MIt} {R : It → Hp → Prop} (s : Sim K φ h H) (q : relIt K φ H J it) (p : Pg (relIt K) K W σ φ H R (.ok it h)) : R J H := p J φ H (Fr.refl _ _) s q
def iList' (K : PySem.W.Frag) (tl : TE) : TI := fun σ H R => tl σ H fun x H1 => ∃ a, x = .ref a ∧ (∃ xs, SqL K H1 a xs) ∧ R (Itl K a) H1
/-- a sequence by its kind: 0 a tuple, 1 a list, 2 a text -/
def iKind (k : Nat) (x : MV) : M MIt := fun h => match x with
  | .tup xs => if k = 0 then some (.ok (itC xs) h) else none
  | .ctup xs => if k = 0 then some (.ok (itC xs) h) else none
  | .tl xs => if k = 1 then some (.ok (itC xs) h) else none
  | .rol xs => if k = 1 then some (.ok (itC xs) h) else none
  | .ref n => if k = 1 then (match h[n]? with
    | some (.lst _) => some (.ok (itH n) h)
    | _ => none) else none
  | .str z => if k = 2 then some (.ok (itC (z.cps.toList.map fun c => .str ⟨#[c]⟩)) h) else none
  | _ => none
theorem iAny_kind {x : MV} {h : Mh} {r : Rs MIt} (e : iAny x h = some r) : iKind 0 x h = some r ∨ iKind 1 x h = some r ∨ iKind 2 x h = some r := by
  cases x with
  | tup xs => exact .inl e
  | ctup xs => exact .inl e
  | tl xs => exact .inr (.inl e)
  | rol xs => exact .inr (.inl e)
  | ref n => exact .inr (.inl e)
  | str z => exact .inr (.inr e)
  | _ => cases e
theorem kind_or {f g1 g2 : MV → M MIt} (hk : ∀ x h r, f x h = some r → g1 x h = some r ∨ g2 x h = some r) : ∀ σ H R, tI K W (x1 f A) σ H R → tI K W (x1 g1 A) σ H R ∨ tI K W (x1 g2 A) σ H R := fun σ H R ⟨φ, g, h, r, hs, hg, e, p⟩ => by
  unfold x1 bd at e
  cases q : A g h with
  | none => rw [q] at e; cases e
  | some r1 =>
    rw [q] at e
    cases r1 with
    | ex ee h1 => exact .inl ⟨φ, g, h, r, hs, hg, by show bd (A g) g1 h = _; unfold bd; rw [q]; exact e, p⟩
    | ok x h1 =>
      rcases hk x h1 r e with k | k
      · exact .inl ⟨φ, g, h, r, hs, hg, by show bd (A g) g1 h = _; unfold bd; rw [q]; exact k, p⟩
      · exact .inr ⟨φ, g, h, r, hs, hg, by show bd (A g) g2 h = _; unfold bd; rw [q]; exact k, p⟩
theorem kind1_ok {φ : Ph} {h : Mh} {H : Hp} {v : V} {x : MV} {r : Rs MIt} (s : Sim K φ h H) (rv : Rv K φ H v x) (e : iKind 1 x h = some r) : ∃ a it, v = .ref a ∧ r = .ok it h ∧ (∃ xs, SqL K H a xs) ∧ relIt K φ H (Itl K a) it := by
  cases x with
  | tl xs =>
    cases e
    unfold Rv at rv
    obtain ⟨a, vs, rfl, q, n, rr⟩ := rv
    exact ⟨a, _, rfl, rfl, ⟨vs, SqL.of q⟩, itC_list (u := .lst vs) (fun φ' H' f => SqL.of (f.keep _ _ q n)) s rr⟩
  | rol xs =>
    cases e
    unfold Rv at rv
    obtain ⟨a, vs, rfl, q, rr⟩ := rv
    exact ⟨a, _, rfl, rfl, ⟨vs, q.l⟩, itC_list (u := .lst vs) (fun φ' H' f => (f.sqi q).l) s rr⟩
  | ref n =>
    change (match h[n]? with | some (.lst _) => some (Rs.ok (itH n) h) | _ => none) = some r at e
    split at e
    · rename_i o
      cases e
      obtain ⟨a, u, rfl, e1, e2, ro⟩ := s.ref rv o
      cases u with
      | lst vs => exact ⟨a, _, rfl, rfl, ⟨vs, SqL.of e2⟩, itH_list e1⟩
      | _ => exact ro.elim
    · cases e
  | _ => cases e
theorem kind0_ok {φ : Ph} {h : Mh} {H : Hp} {v : V} {x : MV} {r : Rs MIt} (s : Sim K φ h H) (rv : Rv K φ H v x) (e : iKind 0 x h = some r) : ∃ a it, v = .ref a ∧ r = .ok it h ∧ (∃ xs, SqT K H a xs) ∧ relIt K φ H (Itt K a) it := by
  cases x with
  | tup xs =>
    cases e
    obtain ⟨a, vs, rfl, q, rr⟩ := tpv_ok (x := .tup xs) rfl rv
    exact ⟨a, _, rfl, rfl, ⟨vs, q⟩, itC_tup (fun φ' H' f => f.sqt s.lv q) s rr⟩
  | ctup xs =>
    cases e
    obtain ⟨a, vs, rfl, q, rr⟩ := tpv_ok (x := .ctup xs) rfl rv
    exact ⟨a, _, rfl, rfl, ⟨vs, q⟩, itC_tup (fun φ' H' f => f.sqt s.lv q) s rr⟩
  | _ => cases e
theorem i_any (ek : X.K = K) (ha : PE X a (tM K W A)) : PI X tg a (tI K W (x1 iAny A)) := by
  subst ek
  refine PI.or3 (kind_or (g1 := iKind 0) (g2 := fun x h => match iKind 1 x h with | some r => some r | none => iKind 2 x h) fun x h r e => ?_) ?_ (PI.or3 (kind_or (g1 := iKind 1) (g2 := iKind 2) fun x h r e => ?_) ?_ ?_)
  · rcases iAny_kind e with k | k | k
    · exact .inl k
    · exact .inr (by rw [k])
    · cases q : iKind 1 x h with
      | none => exact .inr (by simp only [q]; exact k)
      | some r1 =>
        cases x with
        | str z => cases q
        | _ => cases k
  · exact PIw (pi_tup ha) fun σ H R ⟨φ, g, h, r, hs, hg, e, p⟩ => bindG hs hg e p rfl fun x h1 v φ1 H1 f1 s1 g1 r1 e1 p1 => by
      obtain ⟨b, it, rfl, rfl, q, k⟩ := kind0_ok s1 r1 e1
      exact ⟨b, rfl, q, i_one (x := ()) s1 k p1⟩
  · split at e
    · rename_i q
      exact .inl (by rw [q]; exact e)
    · exact .inr e
  · exact PIw (pi_list ha) fun σ H R ⟨φ, g, h, r, hs, hg, e, p⟩ => bindG hs hg e p rfl fun x h1 v φ1 H1 f1 s1 g1 r1 e1 p1 => by
      obtain ⟨b, it, rfl, rfl, q, k⟩ := kind1_ok s1 r1 e1
      exact ⟨b, rfl, q, i_one (x := ()) s1 k p1⟩
  · exact PIw (pi_str ha) fun σ H R ⟨φ, g, h, r, hs, hg, e, p⟩ => bindG hs hg e p rfl fun x h1 v φ1 H1 f1 s1 g1 r1 e1 p1 => by
      cases x with
      | str z =>
        cases e1
        unfold Rv at r1
        exact ⟨z, r1, i_one (x := ()) s1 itC_str p1⟩
      | _ => cases e1
theorem i_rng1 {p : Pos} (hm : X.mg "range" = none) (ha : PA X [a] (tMA K W As)) (hg : Gl X "range" := by rfl) (hs : starEach [a] X.env = [(false, eval a X.env)] := by rfl) : PI X tg (.Call (.Name "range" p) [a] [] pos) (tI K W (x1 iRange1 As)) :=
  PIw (pi_range1 hg hm ha hs) fun σ H R ⟨φ, g, h, r, hs, hg, e, p⟩ => bindG hs hg e p rfl fun x h1 v φ1 H1 f1 s1 g1 r1 e1 p1 => by
    unfold iRange1 at e1
    split at e1
    · split at e1
      · rename_i hc
        cases e1
        obtain ⟨w, rfl, rw_⟩ := one_inv r1
        unfold Rv at rw_
        subst rw_
        exact ⟨_, rfl, hc.1, hc.2, i_one (x := ()) s1 itC_rng p1⟩
      · cases e1
    · cases e1
theorem i_rng2 {p : Pos} (hm : X.mg "range" = none) (ha : PA X [a, b] (tMA K W As)) (hg : Gl X "range" := by rfl) (hs : starEach [a, b] X.env = [(false, eval a X.env), (false, eval b X.env)] := by rfl) (hs2 : starEach [b] X.env = [(false, eval b X.env)] := by rfl) : PI X tg (.Call (.Name "range" p) [a, b] [] pos) (tI K W (x1 iRange2 As)) :=
  PIw (pi_range2 hg hm ha hs hs2) fun σ H R ⟨φ, g, h, r, hs, hg, e, p⟩ => bindG hs hg e p rfl fun x h1 v φ1 H1 f1 s1 g1 r1 e1 p1 => by
    unfold iRange2 at e1
    split at e1
    · split at e1
      · rename_i hc
        cases e1
        obtain ⟨w, w2, rfl, rw_, rw2⟩ := two_inv r1
        unfold Rv at rw_ rw2
        subst rw_ rw2
        exact ⟨_, _, rfl, hc, i_one (x := ()) s1 itC_rng p1⟩
      · cases e1
    · cases e1
/-! enumerate -/
theorem itEn_list {φ : Ph} {h : Mh} {H : Hp} {c : Addr} {it : MIt} (k : relIt K φ H (Itl K c) it) : relIt K φ H (Ite K c) (itEn it) := fun φ' H' h' i f s' => by
  obtain ⟨k1, k2⟩ := k φ' H' h' i f s'
  unfold itEn
  cases q : it i h' with
  | none => exact ⟨fun e => (by cases e), fun x e => (by cases e)⟩
  | some o =>
    cases o with
    | none => exact ⟨fun _ => k1 q, fun x e => (by cases e)⟩
    | some x =>
      refine ⟨fun e => (by cases e), fun z e => ?_⟩
      cases e
      obtain ⟨⟨xs, v, q1, q2⟩, k4⟩ := k2 x q
      refine ⟨⟨xs, v, q1, q2⟩, fun w H'' y => ?_⟩
      obtain ⟨T, u, rfl, n, rfl, y⟩ := y
      obtain ⟨_, _, r⟩ := k4 u H' ⟨rfl, y⟩
      refine ⟨Fr.out n, s'.out n, ?_⟩
      unfold Rv
      exact ⟨T, [.int (i : Nat), u], rfl, upd_same, rvs_cons (by unfold Rv; rfl) (rvs_cons (s'.rv (Fr.out n) r) rvs_nil)⟩
theorem itEn_tup {φ : Ph} {h : Mh} {H : Hp} {c : Addr} {it : MIt} (k : relIt K φ H (Itt K c) it) : relIt K φ H (ItT K c) (itEn it) := fun φ' H' h' i f s' => by
  obtain ⟨k1, k2⟩ := k φ' H' h' i f s'
  unfold itEn
  cases q : it i h' with
  | none => exact ⟨fun e => (by cases e), fun x e => (by cases e)⟩
  | some o =>
    cases o with
    | none => exact ⟨fun _ => k1 q, fun x e => (by cases e)⟩
    | some x =>
      refine ⟨fun e => (by cases e), fun z e => ?_⟩
      cases e
      obtain ⟨⟨xs, v, q1, q2⟩, k4⟩ := k2 x q
      refine ⟨⟨xs, v, q1, q2⟩, fun w H'' y => ?_⟩
      obtain ⟨T, u, rfl, n, rfl, y⟩ := y
      obtain ⟨_, _, r⟩ := k4 u H' ⟨rfl, y⟩
      refine ⟨Fr.out n, s'.out n, ?_⟩
      unfold Rv
      exact ⟨T, [.int (i : Nat), u], rfl, upd_same, rvs_cons (by unfold Rv; rfl) (rvs_cons (s'.rv (Fr.out n) r) rvs_nil)⟩
/-- enumerate(x) by x's kind -/
def iEnK (k : Nat) (xs : List MV) : M MIt := fun h => match xs with
  | [x] => match iKind k x h with
    | some (.ok it h') => some (.ok (itEn it) h')
    | _ => none
  | _ => none
def iEn (xs : List MV) : M MIt := fun h => match iEnK 0 xs h with
  | some r => some r
  | none => iEnK 1 xs h
theorem kindA_or {f g1 g2 : List MV → M MIt} (hk : ∀ x h r, f x h = some r → g1 x h = some r ∨ g2 x h = some r) : ∀ σ H R, tI K W (x1 f As) σ H R → tI K W (x1 g1 As) σ H R ∨ tI K W (x1 g2 As) σ H R := fun σ H R ⟨φ, g, h, r, hs, hg, e, p⟩ => by
  unfold x1 bd at e
  cases q : As g h with
  | none => rw [q] at e; cases e
  | some r1 =>
    rw [q] at e
    cases r1 with
    | ex ee h1 => exact .inl ⟨φ, g, h, r, hs, hg, by show bd (As g) g1 h = _; unfold bd; rw [q]; exact e, p⟩
    | ok x h1 =>
      rcases hk x h1 r e with k | k
      · exact .inl ⟨φ, g, h, r, hs, hg, by show bd (As g) g1 h = _; unfold bd; rw [q]; exact k, p⟩
      · exact .inr ⟨φ, g, h, r, hs, hg, by show bd (As g) g2 h = _; unfold bd; rw [q]; exact k, p⟩
theorem i_enum {p tpos : Pos} {elts : List Expr} {kk : Nat} (ek : X.K = K) (hm : X.mg "enumerate" = none) (ha : PA X [a] (tMA K W As)) (hg : Gl X "enumerate" := by rfl) (hs : starEach [a] X.env = [(false, eval a X.env)] := by rfl) :
    PI X (.Tuple elts kk tpos) (.Call (.Name "enumerate" p) [a] [] pos) (tI K W (x1 iEn As)) := by
  subst ek
  refine PI.or3 (kindA_or (g1 := iEnK 0) (g2 := iEnK 1) fun x h r e => ?_) ?_ ?_
  · unfold iEn at e
    split at e
    · rename_i q; exact .inl (by rw [q]; exact e)
    · exact .inr e
  · exact PIw (pi_enumT hg hm ha hs) fun σ H R ⟨φ, g, h, r, hs, hg, e, p⟩ => bindG hs hg e p rfl fun x h1 v φ1 H1 f1 s1 g1 r1 e1 p1 => by
      unfold iEnK at e1
      split at e1
      · obtain ⟨w, rfl, rw_⟩ := one_inv r1
        split at e1
        · rename_i q
          cases e1
          obtain ⟨b, it, rfl, e2, ⟨xs, qx⟩, k⟩ := kind0_ok s1 rw_ q
          cases e2
          exact ⟨b, xs, rfl, qx, i_one (x := ()) s1 (itEn_tup (h := h1) k) p1⟩
        · cases e1
      · cases e1
  · exact PIw (pi_enum hg hm ha hs) fun σ H R ⟨φ, g, h, r, hs, hg, e, p⟩ => bindG hs hg e p rfl fun x h1 v φ1 H1 f1 s1 g1 r1 e1 p1 => by
      unfold iEnK at e1
      split at e1
      · obtain ⟨w, rfl, rw_⟩ := one_inv r1
        split at e1
        · rename_i q
          cases e1
          obtain ⟨b, it, rfl, e2, ⟨xs, qx⟩, k⟩ := kind1_ok s1 rw_ q
          cases e2
          exact ⟨b, xs, rfl, qx, i_one (x := ()) s1 (itEn_list (h := h1) k) p1⟩
        · cases e1
      · cases e1
/-! ### for -/
def forN : Nat → MIt → MT → MS → Nat → MS
  | 0, _, _, _, _ => fun _ _ => none
  | n + 1, it, T, B, i => fun g h => match it i h with
    | none => none
    | some none => some (.nx g h)
    | some (some x) => match T x g h with
      | some (.ok g1 h1) => match B g1 h1 with
        | some (.nx g2 h2) => forN n it T B (i + 1) g2 h2
        | some (.ct g2 h2) => forN n it T B (i + 1) g2 h2
        | some (.bk g2 h2) => some (.nx g2 h2)
        | r => r
      | _ => none
def sFor (I : Sg → M MIt) (T : MT) (B : MS) : MS := bs I fun it => forN FUEL it T B 0
theorem s_for {iter : Expr} {body : List Stmt} {T : MT} {B : MS} (hp : PassesOwn (model X.prog X.w) X.A X.env X.xe) (hc : X.calm = true) (hi : PI X tg iter (tI K W I)) (hg : PG X tg (tgM K W T)) (hb : PSs X body (tS K W B))
    (hs : ∀ x, foldedSetIterable iter X.env x = pure x := by intro _; rfl) : PS X (.For tg iter body [] pos) (tS K W (sFor I T B)) := psw (ps_for hp hc hi hg hb hs) fun D σ H ⟨φ, g, h, r, hs, hg, e, p⟩ => bindS hs hg e p fun it h1 J φ1 H1 f1 s1 g1 q e1 p1 => by
  refine ⟨fun i m σ' H' => ∃ φ' g' h', Fr φ1 φ' H1 H' ∧ Sim K φ' h' H' ∧ Rg K φ' H' σ' g' ∧ forN m it T B i g' h' = some r, ⟨FUEL, φ1, g, h1, Fr.refl _ _, s1, g1, e1⟩, ?_⟩
  rintro i m σ' H' ⟨φ', g', h', f, s', gg, ee⟩
  cases m with
  | zero => cases ee
  | succ m =>
    unfold forN at ee
    obtain ⟨k1, k2⟩ := q φ' H' h' i f.B s'
    cases q1 : it i h' with
    | none => rw [q1] at ee; cases ee
    | some o =>
      rw [q1] at ee
      cases o with
      | none =>
        cases ee
        exact .inl ⟨k1 q1, p1 σ' φ' H' f s' gg⟩
      | some x =>
        obtain ⟨go, ky⟩ := k2 x q1
        refine .inr ⟨go, fun σ3 H3 => ∃ φ3 g3 h3, Fr φ1 φ3 H1 H3 ∧ Sim K φ3 h3 H3 ∧ Rg K φ3 H3 σ3 g3 ∧ forN m it T B (i + 1) g3 h3 = some r, fun σ3 H3 n3 => ⟨m, Nat.lt_succ_self m, n3⟩, fun v H2 y => ?_⟩
        obtain ⟨f2, s2, rv⟩ := ky v H2 y
        dsimp only at ee
        split at ee
        · rename_i g3 h3 q3
          refine ⟨φ', g', h', x, _, s2, gg.mono s'.lv f2, rv, q3, fun σ4 φ4 H4 f4 s4 g4 => ?_⟩
          have f5 : Fr φ1 φ4 H1 H4 := f.trans (f2.trans f4)
          cases q4 : B g3 h3 with
          | none => rw [q4] at ee; cases ee
          | some r4 =>
            rw [q4] at ee
            refine ⟨φ4, g3, h3, r4, s4, g4, q4, ?_⟩
            cases r4 with
            | nx g5 h5 => exact fun σ6 φ6 H6 f6 s6 g6 => ⟨φ6, g5, h5, f5.trans f6, s6, g6, ee⟩
            | ct g5 h5 => exact fun σ6 φ6 H6 f6 s6 g6 => ⟨φ6, g5, h5, f5.trans f6, s6, g6, ee⟩
            | bk g5 h5 =>
              cases ee
              exact fun σ6 φ6 H6 f6 s6 g6 => p1 σ6 φ6 H6 (f5.trans f6) s6 g6
            | rt v5 h5 =>
              cases ee
              exact fun v6 φ6 H6 f6 s6 r6 => p1 v6 φ6 H6 (f5.trans f6) s6 r6
            | ex e5 g5 h5 =>
              cases ee
              exact fun σ6 C d φ6 H6 f6 s6 g6 r6 => p1 σ6 C d φ6 H6 (f5.trans f6) s6 g6 r6
        · cases ee
/-! ### while -/
def whileN : Nat → (Sg → M Bool) → MS → MS → MS
  | 0, _, _, _ => fun _ _ => none
  | n + 1, C, B, E => bs C fun k => if k then (fun g h => match B g h with
    | some (.nx g2 h2) => whileN n C B E g2 h2
    | some (.ct g2 h2) => whileN n C B E g2 h2
    | some (.bk g2 h2) => some (.nx g2 h2)
    | r => r) else E
def sWhile (C : Sg → M Bool) (B E : MS) : MS := whileN FUEL C B E
theorem s_while {c : Expr} {body orelse : List Stmt} {C : Sg → M Bool} {B E : MS} (hp : PassesOwn (model X.prog X.w) X.A X.env X.xe) (hc : PT X c (tMT K W C)) (hb : PSs X body (tS K W B)) (ho : PSs X orelse (tS K W E)) : PS X (.While c body orelse pos) (tS K W (sWhile C B E)) := psw (ps_whileE hp hc hb ho) fun D σ H ⟨φ, g, h, r, hs, hg, e, p⟩ => by
  refine ⟨fun m σ' H' => ∃ φ' g' h', Fr φ φ' H H' ∧ Sim K φ' h' H' ∧ Rg K φ' H' σ' g' ∧ whileN m C B E g' h' = some r, ⟨FUEL, φ, g, h, Fr.refl _ _, hs, hg, e⟩, ?_⟩
  rintro m σ' H' ⟨φ', g', h', f, s', gg, ee⟩
  cases m with
  | zero => cases ee
  | succ m =>
    unfold whileN at ee
    refine bindS (D := D) s' gg ee (p.mono f) fun k h1 v φ1 H1 f1 s1 g1 rk e1 p1 => ?_
    subst rk
    cases v with
    | false => exact ⟨φ1, g', h1, r, s1, g1, e1, p1⟩
    | true =>
      refine ⟨fun σ3 H3 => ∃ φ3 g3 h3, Fr φ φ3 H H3 ∧ Sim K φ3 h3 H3 ∧ Rg K φ3 H3 σ3 g3 ∧ whileN m C B E g3 h3 = some r, fun σ3 H3 n3 => ⟨m, Nat.lt_succ_self m, n3⟩, ?_⟩
      rw [if_pos rfl] at e1
      have f5 : Fr φ φ1 H H1 := f.trans f1
      cases q4 : B g' h1 with
      | none => rw [q4] at e1; cases e1
      | some r4 =>
        rw [q4] at e1
        refine ⟨φ1, g', h1, r4, s1, g1, q4, ?_⟩
        cases r4 with
        | nx g5 h5 => exact fun σ6 φ6 H6 f6 s6 g6 => ⟨φ6, g5, h5, f5.trans f6, s6, g6, e1⟩
        | ct g5 h5 => exact fun σ6 φ6 H6 f6 s6 g6 => ⟨φ6, g5, h5, f5.trans f6, s6, g6, e1⟩
        | bk g5 h5 =>
          cases e1
          exact fun σ6 φ6 H6 f6 s6 g6 => p1 σ6 φ6 H6 f6 s6 g6
        | rt v5 h5 =>
          cases e1
          exact fun v6 φ6 H6 f6 s6 r6 => p1 v6 φ6 H6 f6 s6 r6
        | ex e5 g5 h5 =>
          cases e1
          exact fun σ6 C d φ6 H6 f6 s6 g6 r6 => p1 σ6 C d φ6 H6 f6 s6 g6 r6
end
end Mi
/-! Mi: comprehensions, defs -/
namespace Mi
open PySem PySem.Spec PyProof.Rows L2 Ob StX

/-! ### [e for x in xs if t] -/
theorem wipe_get (σ : L2.St) (j : Nat) : ∀ vs : List Nat, (wipe σ vs)[j]? = if j ∈ vs then (σ[j]?).map (fun _ => none) else σ[j]?
  | [] => by simp [wipe]
  | v :: vs => by
    show ((wipe σ vs).set v none)[j]? = _
    rw [List.getElem?_set]
    have hl := wipe_length σ vs
    by_cases h : v = j
    · subst h
      rw [if_pos rfl, if_pos (List.mem_cons_self ..), hl]
      by_cases hj : v < σ.length
      · rw [if_pos hj, List.getElem?_eq_getElem hj]; rfl
      · rw [if_neg hj, List.getElem?_eq_none (by omega)]; rfl
    · rw [if_neg h, wipe_get σ j vs]
      have : (j ∈ v :: vs) ↔ j ∈ vs := by
        constructor
        · intro m
          rcases List.mem_cons.mp m with e | e
          · exact absurd e.symm h
          · exact e
        · exact List.mem_cons_of_mem _
      simp only [this]
def setV (σ : L2.St) : List Nat → List V → L2.St
  | i :: is, v :: vs => setV (σ.set i (some v)) is vs
  | _, _ => σ
def setL (g : Sg) : List Nat → List MV → Sg
  | i :: is, x :: xs => setL (g.set i (some x)) is xs
  | _, _ => g
theorem wipe_set {σ τ : L2.St} {vs : List Nat} {i : Nat} {v : V} (h : wipe τ vs = wipe σ vs) (hi : i ∈ vs) : wipe (τ.set i (some v)) vs = wipe σ vs := by
  rw [← h]
  refine List.ext_getElem? fun j => ?_
  rw [wipe_get, wipe_get]
  by_cases hj : j ∈ vs
  · rw [if_pos hj, if_pos hj, List.getElem?_set]
    split
    · rename_i e
      subst e
      by_cases hl : i < τ.length
      · rw [if_pos hl, List.getElem?_eq_getElem hl]; rfl
      · rw [if_neg hl, List.getElem?_eq_none (by omega)]
    · rfl
  · rw [if_neg hj, if_neg hj, List.getElem?_set_ne (fun e => hj (by rw [← e]; exact hi))]
theorem wipe_wipe {σ : L2.St} {vs : List Nat} : wipe (wipe σ vs) vs = wipe σ vs := by
  refine List.ext_getElem? fun j => ?_
  rw [wipe_get, wipe_get]
  by_cases hj : j ∈ vs
  · rw [if_pos hj, if_pos hj, Option.map_map]; rfl
  · rw [if_neg hj]
theorem wipe_setV {σ : L2.St} {vs : List Nat} : ∀ {is : List Nat} {xs : List V} {τ : L2.St}, wipe τ vs = wipe σ vs → (∀ i ∈ is, i ∈ vs) → wipe (setV τ is xs) vs = wipe σ vs
  | [], xs, τ, h, _ => by cases xs <;> exact h
  | i :: is, [], τ, h, _ => h
  | i :: is, x :: xs, τ, h, hi => by
    show wipe (setV (τ.set i (some x)) is xs) vs = _
    exact wipe_setV (wipe_set h (hi i (List.mem_cons_self ..))) fun j hj => hi j (List.mem_cons_of_mem _ hj)
def gNs : List Nat → TGs
  | [] => gNil
  | i :: is => gCons (gName i) (gNs is)
theorem gNs_ok : ∀ {is : List Nat} {vs : List V} {σ : L2.St} {H : Hp} {Q : L2.St → Hp → Prop}, vs.length = is.length → Q (setV σ is vs) H → gNs is vs σ H Q
  | [], [], σ, H, Q, _, q => ⟨rfl, q⟩
  | [], _ :: _, _, _, _, e, _ => by cases e
  | _ :: _, [], _, _, _, e, _ => by cases e
  | i :: is, v :: vs, σ, H, Q, e, q => ⟨v, vs, rfl, gNs_ok (is := is) (by simpa using e) q⟩
theorem Rg.setVs {K : PySem.W.Frag} {φ : Ph} {H : Hp} : ∀ {is : List Nat} {vs : List V} {xs : List MV} {σ : L2.St} {g : Sg}, Rg K φ H σ g → Rvs K φ H vs xs → Rg K φ H (setV σ is vs) (setL g is xs)
  | [], vs, xs, σ, g, r, _ => by
    cases vs <;> cases xs <;> exact r
  | i :: is, vs, [], σ, g, r, a => by rw [rvs_nilr a]; exact r
  | i :: is, vs, x :: xs, σ, g, r, a => by
    obtain ⟨v, t, rfl, a, b⟩ := rvs_invr a
    exact (r.set a).setVs b
def wipM (g : Sg) : List Nat → Sg
  | [] => g
  | v :: vs => (wipM g vs).set v none
theorem Rg.wip {K : PySem.W.Frag} {φ : Ph} {H : Hp} {σ : L2.St} {g : Sg} (r : Rg K φ H σ g) : ∀ vs : List Nat, Rg K φ H (wipe σ vs) (wipM g vs)
  | [] => r
  | v :: vs => (r.wip vs).clr
abbrev CT := MV → Sg → Option Sg
def cNm (i : Nat) : CT := fun x g => some (g.set i (some x))
def cTp (is : List Nat) : CT := fun x g => match tpv x with
  | some xs => if xs.length = is.length then some (setL g is xs) else none
  | none => none
def compN : Nat → MIt → CT → (Sg → M Bool) → (Sg → M MV) → Sg → Nat → List MV → M (List MV)
  | 0, _, _, _, _, _, _, _ => fun _ => none
  | n + 1, it, T, C, E, g, i, acc => fun h => match it i h with
    | none => none
    | some none => some (.ok acc h)
    | some (some x) => match T x g with
      | none => none
      | some g1 => match C g1 h with
        | some (.ok true h1) => match E g1 h1 with
          | some (.ok y h2) => if acc.length < sizeLine then compN n it T C E g (i + 1) (acc ++ [y]) h2 else none
          | _ => none
        | some (.ok false h1) => compN n it T C E g (i + 1) acc h1
        | _ => none
def xLc (b : Bool) (I : Sg → M MIt) (T : CT) (C : Sg → M Bool) (E : Sg → M MV) (vs : List Nat) : Sg → M MV := fun g => bd (I g) fun it => bd (compN FUEL it T C E (wipM g vs) 0 []) fun xs => mkl b xs
def WF : WX := fun _ _ _ _ => False
theorem takesF {X : Cx} : Takes X WF := fun u s' ⟨a, B, sI, pins, σ, H, cls, d, _, _, _, _, _, _, _, _, h⟩ => h.elim
def cYes : Sg → M Bool := fun _ h => some (.ok true h)
/-- the target's reading: g gives a state with g1 -/
def TgOk (K : PySem.W.Frag) (g : TG) (T : CT) (vs : List Nat) : Prop := ∀ {φ : Ph} {h : Mh} {H : Hp} {σ τ : L2.St} {gg g1 : Sg} {v : V} {x : MV} {Q : L2.St → Hp → Prop}, Sim K φ h H → Rg K φ H τ gg → Rv K φ H v x → T x gg = some g1 → wipe τ vs = wipe σ vs →
  (∀ τ', wipe τ' vs = wipe σ vs → Rg K φ H τ' g1 → Q τ' H) → g v τ H Q
theorem tg_nm {K : PySem.W.Frag} {i : Nat} {vs : List Nat} (hi : i ∈ vs) : TgOk K (gName i) (cNm i) vs := fun {φ h H σ τ gg g1 v x Q} s r rv e w k => by
  cases e
  exact k _ (wipe_set w hi) (r.set rv)
theorem tg_tp {K : PySem.W.Frag} {is vs : List Nat} {n : Nat} (hi : ∀ i ∈ is, i ∈ vs) (hn : is.length = n) : TgOk K (gTup K n (gNs is)) (cTp is) vs := fun {φ h H σ τ gg g1 v x Q} s r rv e w k => by
  unfold cTp at e
  split at e
  · rename_i xs q
    split at e
    · rename_i hl
      cases e
      obtain ⟨a, ws, rfl, qa, ra⟩ := tpv_ok q rv
      have hl2 : ws.length = is.length := by rw [ra.length]; exact hl
      exact ⟨a, ws, rfl, qa, by rw [hl2]; exact hn, gNs_ok hl2 (k _ (wipe_setV w hi) (r.setVs ra))⟩
    · cases e
  · cases e
section
variable {X : Cx} {K : PySem.W.Frag} {W : WX} {tg iter elt a b : Expr} {ifs : List Expr} {I : Sg → M MIt} {T : CT} {C : Sg → M Bool} {E A B : Sg → M MV} {g : TG} {scope : Scope} {own : List (Str × Nat)} {pos : Pos} {l : Bool}
theorem c_yes {X : Cx} : PTs X [] (tMT K W cYes) := ⟨fun pins s σ H Q I ⟨φ, g, h, r, hs, hg, e, p⟩ => by
  cases e
  exact pts_nil.run pins s σ H Q I (p true φ H (Fr.refl _ _) hs rfl)⟩
/-- a list that was made is handed on -/
theorem end_own {φ1 φ' : Ph} {h' : Mh} {H1 H' : Hp} {D : Addr} {ws : List V} {acc : List MV} {σ : L2.St} {Q : VK} {R : Rs MV} (s' : Sim K φ' h' H') (hb : φ'.b = D :: φ1.b) (nb : D ∉ φ1.b)
    (fr : φ1.a <+: φ'.a ∧ (∀ b o, H1 b = some o → b ∉ φ1.a → H' b = some o) ∧ (∀ b, b ∈ φ'.a → b ∉ φ1.a → H1 b = none)) (hD : H1 D = none) (hd : H' D = some (.lst ws)) (rw_ : Rvs K φ' H' ws acc) (e : mkl l acc h' = some R) (p : Pg (Rv K) K W σ φ1 H1 Q R) : Q (.ref D) H' := by
  obtain ⟨hp, hk, hn⟩ := fr
  unfold mkl at e
  cases l with
  | false =>
    cases e
    have f2 : FrB φ' ⟨φ'.a, φ1.b⟩ H' H' := FrB.free hb
    refine p (.ref D) ⟨φ'.a, φ1.b⟩ H' ⟨hp, rfl, hk, hn⟩ (s'.free hb) ?_
    unfold Rv
    exact ⟨D, ws, rfl, hd, ⟨(s'.bn D (by rw [hb]; exact List.mem_cons_self ..)).1, nb⟩, s'.rvsB f2 rw_⟩
  | true =>
    cases e
    refine p (.ref D) ⟨φ'.a ++ [D], φ1.b⟩ H' ⟨hp.trans (List.prefix_append _ _), rfl, hk, fun b m n => ?_⟩ (s'.own hb nb hd (show Ro K φ' H' (.lst ws) (.lst acc) from rw_)) ?_
    · rcases List.mem_append.mp m with z | z
      · exact hn b z n
      · rw [List.mem_singleton.mp z]; exact hD
    · unfold Rv
      refine ⟨D, rfl, ?_⟩
      show (φ'.a ++ [D])[h'.length]? = some D
      rw [← s'.len, List.getElem?_append_right (Nat.le_refl _)]
      simp
theorem lc_of {vs : List Nat} (ht : TgOk K g T vs) : ∀ σ H Q, tM K W (xLc l I T C E vs) σ H Q → tLc (tI K W I) g (tMT K WF C) (tM K WF E) vs σ H Q := fun σ H Q ⟨φ, gg, h, r, hs, hg, e, p⟩ => bindG hs hg e p rfl fun it h1 J φ1 H1 f1 s1 g1 q e1 p1 => by
  intro D hD
  unfold bd at e1
  cases q1 : compN FUEL it T C E (wipM gg vs) 0 [] h1 with
  | none => rw [q1] at e1; cases e1
  | some r1 =>
    have f0 : FrB φ1 (φ1.ban D) H1 (upd H1 D (.lst [])) := FrB.ban hD
    have s0 := s1.ban (u := .lst []) hD rfl
    refine ⟨fun i m H' => ∃ φ' h' acc ws, φ'.b = D :: φ1.b ∧ FrB φ1 φ' H1 H' ∧ φ1.a <+: φ'.a ∧ (∀ b o, H1 b = some o → b ∉ φ1.a → H' b = some o) ∧ (∀ b, b ∈ φ'.a → b ∉ φ1.a → H1 b = none) ∧ Sim K φ' h' H' ∧ Rg K φ' H' (wipe σ vs) (wipM gg vs) ∧ H' D = some (.lst ws) ∧ Rvs K φ' H' ws acc ∧ compN m it T C E (wipM gg vs) i acc h' = some r1,
      ⟨FUEL, φ1.ban D, h1, [], [], rfl, f0, List.prefix_refl _, fun b o e _ => by rw [upd_ne (ne_of_none e hD)]; exact e, fun b x y => absurd x y, s0, (g1.wip vs).monoB s1.lv f0, upd_same, rvs_nil, q1⟩, ?_⟩
    rintro i m H' ⟨φ', h', acc, ws, hb, fB, hp, hk, hn, s', gw, hd, rw_, ee⟩
    have mD : D ∈ φ'.b := by rw [hb]; exact List.mem_cons_self ..
    cases m with
    | zero => cases ee
    | succ m =>
      unfold compN at ee
      obtain ⟨k1, k2⟩ := q φ' H' h' i fB s'
      cases q2 : it i h' with
      | none => rw [q2] at ee; cases ee
      | some o =>
        rw [q2] at ee
        cases o with
        | none =>
          cases ee
          rw [q1] at e1
          change mkl l acc h' = some r at e1
          refine .inl ⟨k1 q2, ?_⟩
          exact end_own s' hb (fun m => (s1.notin hD).nb m) (⟨hp, hk, hn⟩) hD hd rw_ e1 p1
        | some x =>
          obtain ⟨go, ky⟩ := k2 x q2
          refine .inr ⟨go, fun H3 => ∃ φ3 h3 acc3 ws3, φ3.b = D :: φ1.b ∧ FrB φ1 φ3 H1 H3 ∧ φ1.a <+: φ3.a ∧ (∀ b o, H1 b = some o → b ∉ φ1.a → H3 b = some o) ∧ (∀ b, b ∈ φ3.a → b ∉ φ1.a → H1 b = none) ∧ Sim K φ3 h3 H3 ∧ Rg K φ3 H3 (wipe σ vs) (wipM gg vs) ∧ H3 D = some (.lst ws3) ∧ Rvs K φ3 H3 ws3 acc3 ∧ compN m it T C E (wipM gg vs) (i + 1) acc3 h3 = some r1,
            fun H3 n3 => ⟨m, Nat.lt_succ_self m, n3⟩, fun v H2 y => ?_⟩
          obtain ⟨f2, s2, rv⟩ := ky v H2 y
          have nD : D ∉ φ'.a := (s'.bn D mD).1
          dsimp only at ee
          cases q3 : T x (wipM gg vs) with
          | none => rw [q3] at ee; cases ee
          | some gt =>
            rw [q3] at ee
            dsimp only at ee
            refine ht (σ := σ) s2 (gw.mono s'.lv f2) rv q3 wipe_wipe fun τ' wt rt => ⟨wt, ?_⟩
            -- what holds behind a piece that runs from H2
            have carry : ∀ {φ4 : Ph} {H4 : Hp}, Fr φ' φ4 H2 H4 → φ4.b = D :: φ1.b ∧ φ1.a <+: φ4.a ∧ (∀ b o, H1 b = some o → b ∉ φ1.a → H4 b = some o) ∧ (∀ b, b ∈ φ4.a → b ∉ φ1.a → H1 b = none) ∧ FrB φ1 φ4 H1 H4 ∧ H4 D = some (.lst ws) ∧ Fr φ' φ4 H' H4 := fun {φ4 H4} f4 => by
              have f5 : Fr φ' φ4 H' H4 := f2.trans f4
              have h3 : ∀ b o, H1 b = some o → b ∉ φ1.a → H4 b = some o := fun b o e n => by
                refine f5.keep b o (hk b o e n) fun z => ?_
                rw [hn b z n] at e
                cases e
              have h4 : ∀ b, b ∈ φ4.a → b ∉ φ1.a → H1 b = none := fun b z n => by
                by_cases z1 : b ∈ φ'.a
                · exact hn b z1 n
                · cases qq : H1 b with
                  | none => rfl
                  | some o =>
                    have := hk b o qq n
                    rw [f5.new b z z1] at this
                    cases this
              refine ⟨f5.bb.trans hb, hp.trans f5.pre, h3, h4, ⟨hp.trans f5.pre, fun b o e n => h3 b o e n.na, fun b o e n => ?_⟩, f5.keep D _ hd nD, f5⟩
              exact f5.B.nw b o (fB.keep b o e n) (fB.nw b o e n)
            cases q4 : C gt h' with
            | none => rw [q4] at ee; cases ee
            | some r4 =>
              rw [q4] at ee
              refine ⟨φ', gt, h', r4, s2, rt, q4, ?_⟩
              cases r4 with
              | ex e4 h4 => cases ee
              | ok c h4 =>
                intro c' φ4 H4 f4 s4 ec
                subst ec
                obtain ⟨b1, b2, b3, b4, b5, b6, b7⟩ := carry f4
                cases c' with
                | false => exact ⟨φ4, h4, acc, ws, b1, b5, b2, b3, b4, s4, gw.mono s'.lv b7, b6, s'.rvs b7 rw_, ee⟩
                | true =>
                  dsimp only at ee
                  rw [if_pos rfl]
                  cases q5 : E gt h4 with
                  | none => rw [q5] at ee; cases ee
                  | some r5 =>
                    rw [q5] at ee
                    refine ⟨φ4, gt, h4, r5, s4, rt.mono s2.lv f4, q5, ?_⟩
                    cases r5 with
                    | ex e5 h5 => cases ee
                    | ok z h5 =>
                      intro u φ5 H5 f5 s5 ru
                      dsimp only at ee
                      obtain ⟨c1, c2, c3, c4, c5, c6, c7⟩ := carry (f4.trans f5)
                      split at ee
                      · rename_i hz
                        have m5 : D ∈ φ5.b := by rw [c1]; exact List.mem_cons_self ..
                        have fg : FrB φ5 φ5 H5 (upd H5 D (.lst (ws ++ [u]))) := FrB.grow m5
                        have sg := s5.grow (u := .lst (ws ++ [u])) m5 rfl
                        have rl := s'.rvs c7 rw_
                        refine ⟨ws, c6, by rw [rl.length]; exact hz, φ5, h5, acc ++ [z], ws ++ [u], c1, ⟨c2, fun b o e n => ?_, fun b o e n => c5.nw b o e n⟩, c2, fun b o e n => ?_, c4, sg, (gw.mono s'.lv c7).monoB s5.lv fg, upd_same, s5.rvsB fg (rl.app (rvs_cons ru rvs_nil)), ee⟩
                        · rw [upd_ne (ne_of_none e hD)]
                          exact c3 b o e n.na
                        · rw [upd_ne (ne_of_none e hD)]
                          exact c3 b o e n
                      · cases ee
theorem m_lc (hc : X.calm = true) (hN : X.N.Nodup) (hi : PI X tg iter (tI K W I)) (ht : TgOk K g T (own.map (·.2))) (ok : BlkOk X.N X.env.scope scope own)
    (hg : ∀ (s : Shared) (H : Hp) (C : Addr) (cl : List (Str × Addr)) (fp : List Addr), PG (X.blk s H scope (compEnvC scope cl C X.env) fp) tg g) (hts : ∀ (s : Shared) (H : Hp) (Ca : Addr) (cl : List (Str × Addr)) (fp : List Addr), PTs (X.blk s H scope (compEnvC scope cl Ca X.env) fp) ifs (tMT K WF C))
    (he : ∀ (s : Shared) (H : Hp) (C : Addr) (cl : List (Str × Addr)) (fp : List Addr), PE (X.blk s H scope (compEnvC scope cl C X.env) fp) elt (tM K WF E)) (hs : ∀ x, foldedSetIterable iter X.env x = pure x := by intro _; rfl) :
    PE X (.ListComp elt [⟨tg, iter, ifs, 0⟩] scope pos) (tM K W (xLc l I T C E (own.map (·.2)))) := pew (pe_lc hc hN hi ok hg hts he hs) (lc_of ht)
theorem s_setLc {i : Nat} {y : Str} {py spos : Pos} (hc : X.calm = true) (hN : X.N.Nodup) (hy : X.N[i]? = some y) (hyl : X.env.scope.names.lookup y = some .local) (hsw : swapsWith (.ListComp elt [⟨tg, iter, ifs, 0⟩] scope pos) (some (.Name y py)) spos.line X.env = pure true)
    (hi : PI X tg iter (tI K W I)) (ht : TgOk K g T (own.map (·.2))) (ok : BlkOk X.N X.env.scope scope own)
    (hg : ∀ (s : Shared) (H : Hp) (C : Addr) (cl : List (Str × Addr)) (fp : List Addr), PG (X.blk s H scope (compEnvC scope cl C X.env) fp) tg g) (hts : ∀ (s : Shared) (H : Hp) (Ca : Addr) (cl : List (Str × Addr)) (fp : List Addr), PTs (X.blk s H scope (compEnvC scope cl Ca X.env) fp) ifs (tMT K WF C))
    (he : ∀ (s : Shared) (H : Hp) (C : Addr) (cl : List (Str × Addr)) (fp : List Addr), PE (X.blk s H scope (compEnvC scope cl C X.env) fp) elt (tM K WF E)) (hs : ∀ x, foldedSetIterable iter X.env x = pure x := by intro _; rfl) :
    PS X (.Assign [.Name y py] (.ListComp elt [⟨tg, iter, ifs, 0⟩] scope pos) spos) (tS K W (sSet i (xLc l I T C E (own.map (·.2))))) := psw (ps_setLc hc hN hy hyl hsw hi ok hg hts he hs) fun D σ H ⟨φ, gg, h, r, hs, hg, e, p⟩ => by
  refine lc_of (l := l) ht σ H _ ?_
  refine bindS hs hg e p fun x h1 v φ1 H1 f1 s1 g1 r1 e1 p1 => ?_
  cases e1
  exact p1 _ φ1 H1 (Fr.refl _ _) s1 (g1.set r1)
end
/-! ### defs -/
def fin : Option SR → Option (Rs MV)
  | some (.nx _ h) => some (.ok .non h)
  | some (.rt v h) => some (.ok v h)
  | some (.ex e _ h) => some (.ex e h)
  | _ => none
/-- p parameters, n names -/
def fnM (p n : Nat) (B : MS) : List MV → M MV := fun xs h => if xs.length = p then fin (B (xs.map some ++ List.replicate (n - xs.length) none) h) else none
theorem rg_start {K : PySem.W.Frag} {φ : Ph} {H : Hp} {N : List Str} {vs : List V} {xs : List MV} (r : Rvs K φ H vs xs) : Rg K φ H (L2.start N vs) (xs.map some ++ List.replicate (N.length - xs.length) none) := by
  have hl := r.length
  refine ⟨by simp [L2.start, hl], fun i x e => ?_⟩
  have hi : i < xs.length := by
    by_cases hi : i < xs.length
    · exact hi
    · rw [List.getElem?_append_right (by simpa using hi), List.getElem?_replicate] at e
      split at e <;> cases e
  rw [List.getElem?_append_left (by simpa using hi), List.getElem?_map] at e
  obtain ⟨y, e1, e2⟩ := Option.map_eq_some_iff.mp e
  cases e2
  obtain ⟨v, e3, e4⟩ := r.get e1
  refine ⟨v, ?_, e4⟩
  unfold L2.start
  rw [List.getElem?_append_left (by simp; omega), List.getElem?_map, e3]
  rfl
theorem fn_read {K : PySem.W.Frag} {N : List Str} {p : Nat} {B : MS} {vs : List V} {H : Hp} {Q : VK} {E : XK} (h : spM K (fnM p N.length B) vs H Q E) :
    tS K (fun c d _ H => E c d H) B { nx := fun _ H' => Q .non H', rt := Q } (L2.start N vs) H := by
  obtain ⟨φ, h, xs, r, s, rx, e, pp⟩ := h
  unfold fnM at e
  split at e
  · cases q : B (xs.map some ++ List.replicate (N.length - xs.length) none) h with
    | none => rw [q] at e; cases e
    | some r0 =>
      rw [q] at e
      refine ⟨φ, _, h, r0, s, rg_start rx, q, ?_⟩
      cases r0 with
      | nx g' h' => cases e; exact fun σ' φ' H' f s' g' => pp .non φ' H' f s' rv_n
      | rt v h' => cases e; exact fun v φ' H' f s' rv => pp v φ' H' f s' rv
      | ex ee g' h' => cases e; exact fun σ' C d φ' H' f s' g' re => pp C d φ' H' f s' re
      | bk g' h' => cases e
      | ct g' h' => cases e
  · cases e
theorem fn_len {K : PySem.W.Frag} {n p : Nat} {B : MS} {vs : List V} {H : Hp} {Q : VK} {E : XK} (h : spM K (fnM p n B) vs H Q E) : vs.length = p := by
  obtain ⟨φ, h, xs, r, s, rx, e, pp⟩ := h
  unfold fnM at e
  split at e
  · rw [rx.length]; assumption
  · cases e
section
variable {fa : List He.Fa} {fn : List He.DefD} {ts : List He.Tab} {ex : PySem.W.Frag → Bool} {w : World} {K : PySem.W.Frag} {mg : Str → Option Value} {P : Program} {base : Heap} {k : Nat}
/-- a def of the text, without defaults -/
theorem okM (T : Tp fa fn ts ex w K mg) (i : Nat) {d : He.DefD} {N ps : List Str} {B : MS} (h : fn[i]? = some d) (hd : d.dfl = []) (hk : d.kwd = []) (S : FnScope N ps d.scope)
    (hb : ∀ (kV doc pm : Value) (an : Option Addr) (cdv ct : Value) (us : List Value), us.length = ps.length → bindArgs (PySem.W.fnOf d.name d.qual d.params d.body d.scope .none kV doc pm an cdv ct) ⟨us, []⟩ = pure (ps.zip us))
    (hbody : ∀ (cdv : Value) (A : Around) (outer : List Env) (s : Shared) (H : Hp) (E : XK), Room k (A.deeper (envOfC d.qual d.scope s.heap.objs.size (He.fAd K d.at_) cdv)) →
      Takes (cxOf (L2.CX P w) P w K mg base N d.qual d.scope (He.fAd K d.at_) cdv A outer s H E) (fun c d _ H => E c d H) → PassesOwn (model P w) (A.deeper (envOfC d.qual d.scope s.heap.objs.size (He.fAd K d.at_) cdv)) (envOfC d.qual d.scope s.heap.objs.size (He.fAd K d.at_) cdv) (cxOf (L2.CX P w) P w K mg base N d.qual d.scope (He.fAd K d.at_) cdv A outer s H E).xe →
      PSs (cxOf (L2.CX P w) P w K mg base N d.qual d.scope (He.fAd K d.at_) cdv A outer s H E) d.body (tS K (fun c d _ H => E c d H) B)) :
    FnM P w K mg base (k + 1) (He.fAd K d.at_) (fnM ps.length N.length B) :=
  T.ok i h hd hk S hb (fun vs H Q E q => fn_len q) fun cdv A outer s H vs Q E hr q => ⟨_, hbody cdv A outer s H E hr (takes_of rfl rfl rfl rfl) (passes_of rfl), fn_read q⟩
/-- the law: nothing is being shown above it -/
theorem okMG (T : Tp fa fn ts ex w K mg) (i : Nat) {d : He.DefD} {N ps : List Str} {B : MS} (h : fn[i]? = some d) (hd : d.dfl = []) (hk : d.kwd = []) (S : FnScope N ps d.scope)
    (hb : ∀ (kV doc pm : Value) (an : Option Addr) (cdv ct : Value) (us : List Value), us.length = ps.length → bindArgs (PySem.W.fnOf d.name d.qual d.params d.body d.scope .none kV doc pm an cdv ct) ⟨us, []⟩ = pure (ps.zip us))
    (hbody : ∀ (cdv : Value) (A : Around) (outer : List Env) (s : Shared) (H : Hp) (E : XK), RoomG k (A.deeper (envOfC d.qual d.scope s.heap.objs.size (He.fAd K d.at_) cdv)) →
      Takes (cxOf (L2.CX P w) P w K mg base N d.qual d.scope (He.fAd K d.at_) cdv A outer s H E) (fun c d _ H => E c d H) → PassesOwn (model P w) (A.deeper (envOfC d.qual d.scope s.heap.objs.size (He.fAd K d.at_) cdv)) (envOfC d.qual d.scope s.heap.objs.size (He.fAd K d.at_) cdv) (cxOf (L2.CX P w) P w K mg base N d.qual d.scope (He.fAd K d.at_) cdv A outer s H E).xe →
      PSs (cxOf (L2.CX P w) P w K mg base N d.qual d.scope (He.fAd K d.at_) cdv A outer s H E) d.body (tS K (fun c d _ H => E c d H) B)) :
    FnG P w K mg base (L2.CX P w) (k + 1) (He.fAd K d.at_) (spM K (fnM ps.length N.length B)) := by
  obtain ⟨fd, F⟩ := T.c.def_ i h
  have e1 : d.dvs K = [] := by unfold He.DefD.dvs; rw [hd]; rfl
  have e2 : d.kws K = [] := by unfold He.DefD.kws; rw [hk]; rfl
  rw [e1, e2] at F
  obtain ⟨oc, od, dV, kV, doc, pm, an, cdv, ct, osl, rfl, lk, hcd, hD, hK⟩ := F.ex
  rcases hD with ⟨_, rfl⟩ | ⟨e, _⟩
  · exact fnG_of lk hcd S (fun us hl => hb kV doc pm an cdv ct us hl) (fun vs H Q E q => fn_len q) fun A outer s H vs Q E hr q => ⟨_, hbody cdv A outer s H E hr (takes_of rfl rfl rfl rfl) (passes_of rfl), fn_read q⟩
  · exact absurd rfl e
end
/-- no exception is let out -/
theorem FnG.cx0 {P : Program} {w : World} {K : PySem.W.Frag} {mg : Str → Option Value} {base : Heap} {k : Nat} {f : Addr} {sp sp' : Sp} (F : FnG P w K mg base (L2.CX P w) k f sp) (h : ∀ vs H Q E, sp' vs H Q E → sp vs H Q fun _ _ _ => False) : FnG P w K mg base CX0 k f sp' := fun A outer s H us vs Q E hr e0 r q => by
  refine codeAny_mono (F A outer s H us vs Q _ hr e0 r (h _ _ _ _ q)) fun r s' hq => ?_
  cases r with
  | ok fl =>
    cases fl <;> exact hq
  | error e =>
    obtain ⟨a, B, H', cls, d, _, _, _, _, _, _, _, z⟩ := hq
    exact z.elim
end Mi
/-! Mi: tests, chains, stars, displays of dicts, f-strings, tables of the top, list(text), repr -/
namespace Mi
open PySem PySem.Spec PyProof.Rows L2 Ob StX

section
variable {fa : List He.Fa} {fn : List He.DefD} {ts : List He.Tab} {ex : PySem.W.Frag → Bool} {w : World} {K : PySem.W.Frag} {mg : Str → Option Value}
theorem Tp.cls_ (T : Tp fa fn ts ex w K mg) (i : Nat) {x : Str} (h : fa[i]? = some (.cls x) := by rfl) : Cls K (He.ga K x) := He.cls_ok (T.c.fact i h)
theorem Tp.noat_ (T : Tp fa fn ts ex w K mg) (i : Nat) {x f : Str} (h : fa[i]? = some (.noat x f) := by rfl) : NoAttr K (He.ga K x) f := He.noat_ok (T.c.fact i h)
theorem Tp.meth_ (T : Tp fa fn ts ex w K mg) (i : Nat) {x m : Str} (h : fa[i]? = some (.meth x m) := by rfl) : Meth K (He.ga K x) m (He.ma K (He.ga K x) m) := He.meth_ok (T.c.fact i h)
theorem Tp.mkr_ (T : Tp fa fn ts ex w K mg) (i : Nat) {x : Str} (h : fa[i]? = some (.mkr x) := by rfl) : Mk K (He.ga K x) (He.ma K (He.ga K x) "__init__") := He.mkr_ok (T.c.fact i h)
end
section
variable {X : Cx} {K : PySem.W.Frag} {W : WX} {a b c : Expr} {A B C : Sg → M MV} {es : List Expr} {As : Sg → M (List MV)} {pos : Pos} {T U : Sg → M Bool}
/-! ### tests -/
def tsb (A : Sg → M MV) : Sg → M Bool := x1 (fun x h => match x with | .bl b => some (.ok b h) | _ => none) A
theorem tsb_of : ∀ σ H Q, tMT K W (tsb A) σ H Q → tM K W A σ H (fun x H' => ∃ k, x = .bl k ∧ Q k H') := fun σ H Q ⟨φ, g, h, R, hs, hg, e, p⟩ => bindG hs hg e p rfl fun x h1 v φ1 H1 f1 s1 g1 r1 e1 p1 => by
  split at e1
  · cases e1
    unfold Rv at r1
    exact ⟨_, r1, p1 _ φ1 H1 (Fr.refl _ _) s1 rfl⟩
  · cases e1
theorem t_cmp {op : CmpOp} {r : R2} {f : MV → MV → M MV} (ho : OpR X (compareOp op) r) (hf : Op2 K f r) (ha : PE X a (tM K W A)) (hb : PE X b (tM K W B)) (hm : behindInMarks op b = false) : PT X (.Compare a [op] [b] pos) (tMT K W (tsb (x2 f A B))) :=
  ptw (pt_cmpR ho ha hb hm) fun σ H Q q => two hf σ H _ (tsb_of σ H Q q)
theorem pt_or {X : Cx} {e : Expr} {t u v : TT} (h1 : ∀ σ H Q, v σ H Q → t σ H Q ∨ u σ H Q) (a : PT X e t) (b : PT X e u) : PT X e v := ⟨fun pins s σ H Q I q => (h1 σ H Q q).elim (a.run pins s σ H Q I) (b.run pins s σ H Q I)⟩
theorem din_of {n : Bool} : ∀ σ H Q, tM K W (x2 (mDin false) A B) σ H Q → tDIn (tM K W A) (tM K W B) σ H Q := fun σ H Q ⟨φ, g, h, R, hs, hg, e, p⟩ => bindG hs hg e p rfl fun x h1 v φ1 H1 f1 s1 g1 r1 e1 p1 => bindG s1 g1 e1 p1 rfl fun y h2 w φ2 H2 f2 s2 g2 r2 e2 p2 => by
  unfold mDin at e2
  split at e2
  · rename_i z q
    cases e2
    obtain ⟨a, u, ev, dg, k0, k⟩ := dget_ok s2 r2 (s1.rv f2 r1) q
    refine ⟨a, u, ev, dg, ?_⟩
    have hz : u.isSome = z.isSome := by
      cases z with
      | none => rw [k0 rfl]; rfl
      | some z => obtain ⟨t, rfl, _⟩ := k z rfl; rfl
    rw [hz]
    exact bl_end s2 p2
  · cases e2
theorem dnin_of {n : Bool} : ∀ σ H Q, tM K W (x2 (mDin true) A B) σ H Q → tDNotIn (tM K W A) (tM K W B) σ H Q := fun σ H Q ⟨φ, g, h, R, hs, hg, e, p⟩ => bindG hs hg e p rfl fun x h1 v φ1 H1 f1 s1 g1 r1 e1 p1 => bindG s1 g1 e1 p1 rfl fun y h2 w φ2 H2 f2 s2 g2 r2 e2 p2 => by
  unfold mDin at e2
  split at e2
  · rename_i z q
    cases e2
    obtain ⟨a, u, ev, dg, k0, k⟩ := dget_ok s2 r2 (s1.rv f2 r1) q
    refine ⟨a, u, ev, dg, ?_⟩
    have hz : u.isSome = z.isSome := by
      cases z with
      | none => rw [k0 rfl]; rfl
      | some z => obtain ⟨t, rfl, _⟩ := k z rfl; rfl
    rw [hz]
    exact bl_end s2 p2
  · cases e2
theorem t_in (ek : X.K = K) (hu : X.A.units + 1 < cLine) (ha : PE X a (tM K W A)) (hb : PE X b (tM K W B)) (hm : behindInMarks .In b = false) : PT X (.Compare a [.In] [b] pos) (tMT K W (tsb (x2 (mIn2 false) A B))) := by
  subst ek
  refine pt_or (fun σ H Q q => two_or (f := mIn false) (g := mDin false) σ H _ (tsb_of σ H Q q)) ?_ ?_
  · exact ptw (pt_cmpR (OpR.or (OpR.or op_inS op_in_str) op_in_seq) ha hb hm) fun σ H Q q => two o_in σ H _ q
  · exact ptw (pt_cmp (pc_din hu ha hb) hm) fun σ H Q q => din_of (n := true) σ H _ q
theorem t_notIn (ek : X.K = K) (hu : X.A.units + 1 < cLine) (ha : PE X a (tM K W A)) (hb : PE X b (tM K W B)) (hm : behindInMarks .NotIn b = false) : PT X (.Compare a [.NotIn] [b] pos) (tMT K W (tsb (x2 (mIn2 true) A B))) := by
  subst ek
  refine pt_or (fun σ H Q q => two_or (f := mIn true) (g := mDin true) σ H _ (tsb_of σ H Q q)) ?_ ?_
  · exact ptw (pt_cmpR (OpR.or (OpR.or op_notInS op_notIn_str) op_notIn_seq) ha hb hm) fun σ H Q q => two o_notIn σ H _ q
  · exact ptw (pt_cmp (pc_dnotin hu ha hb) hm) fun σ H Q q => dnin_of (n := true) σ H _ q
theorem tAnd_ {rest : List Expr} (ha : PT X a (tMT K W T)) (hb : PW X (.BoolOp .And (b :: rest) pos) (tMT K W U)) : PW X (.BoolOp .And (a :: b :: rest) pos) (tMT K W (tAnM T U)) := pww (pw_and ha hb) and_of
theorem tOr_ {rest : List Expr} (ha : PT X a (tMT K W T)) (hb : PW X (.BoolOp .Or (b :: rest) pos) (tMT K W U)) : PW X (.BoolOp .Or (a :: b :: rest) pos) (tMT K W (tOrM T U)) := pww (pw_or ha hb) or_of
/-! ### a < b < c -/
def xChain (f g : MV → MV → M MV) (A B C : Sg → M MV) : Sg → M MV := fun s => bd (A s) fun x => bd (B s) fun y => bd (f x y) fun z h => match z with
  | .bl true => bd (C s) (fun w => g y w) h
  | .bl false => some (.ok (.bl false) h)
  | _ => none
theorem chain_of {r r' : R2} {f g : MV → MV → M MV} (hf : Op2 K f r) (hg : Op2 K g r') : ∀ σ H Q, tM K W (xChain f g A B C) σ H Q → tChain r r' (tM K W A) (tM K W B) (tM K W C) σ H Q := fun σ H Q ⟨φ, s, h, R, hs, hgg, e, p⟩ =>
  bindG hs hgg e p rfl fun x h1 v φ1 H1 f1 s1 g1 r1 e1 p1 => bindG s1 g1 e1 p1 rfl fun y h2 w φ2 H2 f2 s2 g2 r2 e2 p2 => by
    unfold bd at e2
    cases q : f x y h2 with
    | none => rw [q] at e2; cases e2
    | some R1 =>
      rw [q] at e2
      refine hf s2 (s1.rv f2 r1) r2 q (W := W) (σ := σ) ?_
      cases R1 with
      | ex ee h3 => cases e2; exact p2
      | ok z h3 =>
        intro u φ3 H3 f3 s3 ru
        dsimp only at e2
        split at e2
        · unfold Rv at ru
          refine ⟨true, ru, ?_⟩
          rw [if_pos rfl]
          exact bindG s3 (g2.mono s2.lv f3) e2 (p2.mono f3) rfl fun z2 h4 w4 φ4 H4 f4 s4 g4 r4 e4 p4 => hg s4 (s2.rv (f3.trans f4) r2) r4 e4 p4
        · unfold Rv at ru
          cases e2
          refine ⟨false, ru, ?_⟩
          rw [if_neg Bool.false_ne_true]
          exact bl_end s3 (p2.mono f3)
        · cases e2
theorem m_chain {op op' : CmpOp} {r r' : R2} {f g : MV → MV → M MV} (ho : OpR X (compareOp op) r) (hf : Op2 K f r) (ho' : OpR X (compareOp op') r') (hg : Op2 K g r') (ha : PE X a (tM K W A)) (hb : PE X b (tM K W B)) (hc : PE X c (tM K W C))
    (hm : lastMarks [op, op'] [b, c] = false := by with_unfolding_all rfl) : PE X (.Compare a [op, op'] [b, c] pos) (tM K W (xChain f g A B C)) := pew (pe_chain ho ho' ha hb hc hm) (chain_of hf hg)
theorem t_chain {op op' : CmpOp} {r r' : R2} {f g : MV → MV → M MV} (ho : OpR X (compareOp op) r) (hf : Op2 K f r) (ho' : OpR X (compareOp op') r') (hg : Op2 K g r') (ha : PE X a (tM K W A)) (hb : PE X b (tM K W B)) (hc : PE X c (tM K W C))
    (hm : lastMarks [op, op'] [b, c] = false := by with_unfolding_all rfl) : PT X (.Compare a [op, op'] [b, c] pos) (tMT K W (tsb (xChain f g A B C))) := ptw (pt_chain ho ho' ha hb hc hm) fun σ H Q q => chain_of hf hg σ H _ (tsb_of σ H Q q)
/-! ### stars -/
def xStar (A : Sg → M MV) (As : Sg → M (List MV)) : Sg → M (List MV) := fun g => bd (A g) fun x h => match seqv x h with
  | some xs => bd (As g) (fun ys => pu (xs ++ ys)) h
  | none => none
theorem m_star {p : Pos} (ek : X.K = K) (ha : PE X a (tM K W A)) (hr : PA X es (tMA K W As)) (hs : starEach (.Starred a p :: es) X.env = (true, eval a X.env) :: starEach es X.env := by rfl) : PA X (.Starred a p :: es) (tMA K W (xStar A As)) :=
  paw (kpa_star ek ha hr hs) fun σ H Q ⟨φ, g, h, R, hs, hg, e, p⟩ => bindG hs hg e p rfl fun x h1 v φ1 H1 f1 s1 g1 r1 e1 p1 => by
    split at e1
    · rename_i xs q
      obtain ⟨b, vs, rfl, qa, ra⟩ := seqv_ok s1 q r1
      exact ⟨b, vs, rfl, qa.symm, bindG s1 g1 e1 p1 rfl fun y h2 w φ2 H2 f2 s2 g2 r2 e2 p2 => by
        cases e2
        exact p2 _ φ2 H2 (Fr.refl _ _) s2 ((s1.rvs f2 ra).app r2)⟩
    · cases e1
def gStM (T U : MT) : MT := fun x g h => match tpv x with
  | some (x :: xs) => if xs.length ≤ 16000 then (match T x g h with
    | some (.ok g1 h1) => match U (.tl xs) g1 h1 with
      | some (.ok g2 h2) => some (.ok g2 h2)
      | _ => none
    | _ => none) else none
  | _ => none
theorem g_star {e1 e2 : Expr} {k : Nat} {p2 : Pos} {T U : MT} (ek : X.K = K) (hc : X.calm = true) (h1 : PG X e1 (tgM K W T)) (h2 : PG X e2 (tgM K W U))
    (hn : (assignEach [e1, .Starred e2 p2] X.env).length = 2 := by rfl) (hst : (assignEach [e1, .Starred e2 p2] X.env).findIdx? (·.1) = some 1 := by rfl)
    (hm : (assignEach [e1, .Starred e2 p2] X.env).map (·.2) = [assign e1 X.env, assign e2 X.env] := by rfl) : PG X (.Tuple [e1, .Starred e2 p2] k pos) (tgM K W (gStM T U)) :=
  pgw (kpg_star ek hc h1 h2 hn hst hm) fun v σ H Q ⟨φ, g, h, x, r, hs, hg, rv, e, p⟩ => by
    unfold gStM at e
    split at e
    · rename_i y ys q
      split at e
      · rename_i hl
        obtain ⟨a, vs, rfl, qa, ra⟩ := tpv_ok q rv
        obtain ⟨v, t, rfl, r1, r2⟩ := rvs_invr ra
        refine ⟨a, v, t, rfl, qa, by rw [r2.length]; exact hl, fun D hD => ?_⟩
        have f0 : Fr φ φ H (upd H D (.lst t)) := Fr.out hD
        have s0 : Sim K φ h (upd H D (.lst t)) := hs.out hD
        split at e
        · rename_i g1 h1' q1
          refine ⟨φ, g, h, y, _, s0, hg.mono hs.lv f0, hs.rv f0 r1, q1, fun σ1 φ1 H1 f1 s1 gg1 => ?_⟩
          split at e
          · rename_i g2 h2' q2
            cases e
            have rl : Rv K φ (upd H D (.lst t)) (.ref D) (.tl ys) := by
              unfold Rv
              exact ⟨D, t, rfl, upd_same, hs.notin hD, hs.rvs f0 r2⟩
            exact ⟨φ1, g1, h1', .tl ys, _, s1, gg1, s0.rv f1 rl, q2, fun σ2 φ2 H2 f2 s2 gg2 => p σ2 φ2 H2 (f0.trans (f1.trans f2)) s2 gg2⟩
          · cases e
        · cases e
      · cases e
    · cases e
/-! ### statements -/
def sNever : MS := fun _ _ => none
theorem s_never {st : Stmt} : PS X st (tS K W sNever) := psw ps_never fun D σ H ⟨φ, g, h, r, hs, hg, e, p⟩ => by cases e
def sAsg2 (A : Sg → M MV) (T U : MT) : MS := bs A fun x g h => match T x g h with
  | some (.ok g1 h1) => match U x g1 h1 with
    | some (.ok g2 h2) => some (.nx g2 h2)
    | _ => none
  | _ => none
theorem s_asg2 {t1 t2 : Expr} {T U : MT} (ha : PE X a (tM K W A)) (h1 : PG X t1 (tgM K W T)) (h2 : PG X t2 (tgM K W U)) (hn : (assignEach [t1, t2] X.env).map (·.2) = [assign t1 X.env, assign t2 X.env] := by rfl) (hw : swappedStores [t1, t2] a X.env = pure none := by rfl) :
    PS X (.Assign [t1, t2] a pos) (tS K W (sAsg2 A T U)) := psw (ps_asg2 ha h1 h2 hn hw) fun D σ H ⟨φ, g, h, r, hs, hg, e, p⟩ => bindS hs hg e p fun x h1 v φ1 H1 f1 s1 g1 r1 e1 p1 => by
  split at e1
  · rename_i g2 h2' q
    split at e1
    · rename_i g3 h3' q2
      cases e1
      exact ⟨φ1, g, h1, x, _, s1, g1, r1, q, fun σ2 φ2 H2 f2 s2 gg2 => ⟨φ2, g2, h2', x, _, s2, gg2, s1.rv f2 r1, q2, fun σ3 φ3 H3 f3 s3 gg3 => p1 σ3 φ3 H3 (f2.trans f3) s3 gg3⟩⟩
    · cases e1
  · cases e1
def sAsg3 (A : Sg → M MV) (T U Z : MT) : MS := bs A fun x g h => match T x g h with
  | some (.ok g1 h1) => match U x g1 h1 with
    | some (.ok g2 h2) => match Z x g2 h2 with
      | some (.ok g3 h3) => some (.nx g3 h3)
      | _ => none
    | _ => none
  | _ => none
theorem s_asg3 {t1 t2 t3 : Expr} {T U Z : MT} (ha : PE X a (tM K W A)) (h1 : PG X t1 (tgM K W T)) (h2 : PG X t2 (tgM K W U)) (h3 : PG X t3 (tgM K W Z)) (hn : (assignEach [t1, t2, t3] X.env).map (·.2) = [assign t1 X.env, assign t2 X.env, assign t3 X.env] := by rfl) (hw : swappedStores [t1, t2, t3] a X.env = pure none := by rfl) :
    PS X (.Assign [t1, t2, t3] a pos) (tS K W (sAsg3 A T U Z)) := psw (ps_asg3 ha h1 h2 h3 hn hw) fun D σ H ⟨φ, g, h, r, hs, hg, e, p⟩ => bindS hs hg e p fun x h1 v φ1 H1 f1 s1 g1 r1 e1 p1 => by
  split at e1
  · rename_i g2 h2' q
    split at e1
    · rename_i g3 h3' q2
      split at e1
      · rename_i g4 h4' q3
        cases e1
        exact ⟨φ1, g, h1, x, _, s1, g1, r1, q, fun σ2 φ2 H2 f2 s2 gg2 => ⟨φ2, g2, h2', x, _, s2, gg2, s1.rv f2 r1, q2, fun σ3 φ3 H3 f3 s3 gg3 => ⟨φ3, g3, h3', x, _, s3, gg3, s1.rv (f2.trans f3) r1, q3, fun σ4 φ4 H4 f4 s4 gg4 => p1 σ4 φ4 H4 (f2.trans (f3.trans f4)) s4 gg4⟩⟩⟩
      · cases e1
    · cases e1
  · cases e1
/-! ### f-strings -/
def mFmt (x : MV) : M MV := fun h => match x with
  | .str y => if y.length ≤ sizeLine then some (.ok (.str y) h) else none
  | .int i => if i.natAbs.log2 < 1920 then some (.ok (.str (toString i)) h) else none
  | _ => none
theorem m_fmt (ha : PE X a (tM K W A)) : PE X (.FormattedValue a (-1) none pos) (tM K W (x1 mFmt A)) := pew (pe_fmt ha) fun σ H Q ⟨φ, g, h, R, hs, hg, e, p⟩ => bindG hs hg e p rfl fun x h1 v φ1 H1 f1 s1 g1 r1 e1 p1 => by
  unfold mFmt at e1
  split at e1
  · split at e1
    · cases e1
      unfold Rv at r1
      exact .inl ⟨_, r1, by assumption, str_end s1 p1⟩
    · cases e1
  · split at e1
    · cases e1
      unfold Rv at r1
      exact .inr ⟨_, r1, by assumption, str_end s1 p1⟩
    · cases e1
  · cases e1
inductive PJm (X : Cx) (K : PySem.W.Frag) (W : WX) : List Expr → List (Sg → M MV) → Prop
  | nil : PJm X K W [] []
  | cons {e : Expr} {A : Sg → M MV} {es : List Expr} {As : List (Sg → M MV)} : PE X e (tM K W A) → PJm X K W es As → PJm X K W (e :: es) (A :: As)
theorem PJm.pj {es : List Expr} {As : List (Sg → M MV)} (h : PJm X K W es As) : PJ X es (As.map fun A => tM K W A) := by
  induction h with
  | nil => exact .nil
  | cons a _ ih => exact .cons a ih
def xJs : List (Sg → M MV) → Str → Sg → M MV
  | [], acc => fun _ => pu (.str acc)
  | A :: As, acc => fun g => bd (A g) fun x h => match x with
    | .str y => if (acc ++ y).length ≤ sizeLine then xJs As (acc ++ y) g h else none
    | _ => none
theorem js_of : ∀ (As : List (Sg → M MV)) (acc : Str) (σ : L2.St) (H : Hp) (Q : VK), tM K W (xJs As acc) σ H Q → tJs (As.map fun A => tM K W A) acc σ H fun out H1 => Q (.str out) H1
  | [], acc, σ, H, Q, ⟨φ, g, h, R, hs, hg, e, p⟩ => by
    cases e
    exact str_end hs p
  | A :: As, acc, σ, H, Q, ⟨φ, g, h, R, hs, hg, e, p⟩ => bindG hs hg e p rfl fun x h1 v φ1 H1 f1 s1 g1 r1 e1 p1 => by
    split at e1
    · split at e1
      · unfold Rv at r1
        exact ⟨_, r1, by assumption, js_of As _ σ H1 Q ⟨φ1, g, h1, R, s1, g1, e1, p1⟩⟩
      · cases e1
    · cases e1
theorem m_joined {v1 v2 : Expr} {rest : List Expr} {As : List (Sg → M MV)} (h : PJm X K W (v1 :: v2 :: rest) As) : PE X (.JoinedStr (v1 :: v2 :: rest) pos) (tM K W (xJs As Str.empty)) := pew (pe_joined h.pj) fun σ H Q q => js_of As Str.empty σ H Q q
theorem m_joined1 (h : PE X a (tM K W A)) : PE X (.JoinedStr [a] pos) (tM K W A) := pe_joined1 h
/-! ### dicts -/
def xDnew (T : Bool) : Sg → M MV := fun _ h => some (.ok (.ref h.length) (h ++ [if T then .dT [] else .dK []]))
theorem m_dnewK : PE X (.Dict [] [] pos) (tM K W (xDnew false)) := pew pe_dnewK fun σ H Q ⟨φ, g, h, R, hs, hg, e, p⟩ => by
  cases e
  exact fun q hq => p _ (φ.push q) _ (Fr.push hq) (hs.push hq (show Ro K φ H (.dK []) (.dK []) from ⟨rfl, rvs_nil⟩)) (Rv.last hs)
theorem m_dnewT : PE X (.Dict [] [] pos) (tM K W (xDnew true)) := pew pe_dnewT fun σ H Q ⟨φ, g, h, R, hs, hg, e, p⟩ => by
  cases e
  exact fun q hq => p _ (φ.push q) _ (Fr.push hq) (hs.push hq (show Ro K φ H (.dT []) (.dT []) from ⟨rfl, rvs_nil⟩)) (Rv.last hs)
inductive PPm (X : Cx) (K : PySem.W.Frag) (W : WX) (pos : Pos) : List (Option Expr) → List Expr → List ((Sg → M MV) × (Sg → M MV)) → Prop
  | nil : PPm X K W pos [] [] []
  | cons {k v : Expr} {ks : List (Option Expr)} {vs : List Expr} {A B : Sg → M MV} {r : List ((Sg → M MV) × (Sg → M MV))} : PE X k (tM K W A) → PE X v (tM K W B) → PPm X K W pos ks vs r → PPm X K W pos (some k :: ks) (v :: vs) ((A, B) :: r)
theorem PPm.pp {ks : List (Option Expr)} {vs : List Expr} {r : List ((Sg → M MV) × (Sg → M MV))} (h : PPm X K W pos ks vs r) : PPs X pos ks vs (r.map fun q => (tM K W q.1, tM K W q.2)) := by
  induction h with
  | nil => exact pps_nil
  | cons a b _ ih => exact pps_cons a b ih
/-- the pairs, from the left -/
def xPrs : List ((Sg → M MV) × (Sg → M MV)) → Sg → M (List (Key × MV))
  | [] => fun _ => pu []
  | q :: r => fun g => bd (q.1 g) fun k => bd (q.2 g) fun v h => match keyOf k with
    | some k => bd (xPrs r g) (fun l => pu ((k, v) :: l)) h
    | none => none
def mergeM (kvs : List (Key × MV)) : List (Key × MV) := kvs.foldl (fun acc kv => putM acc kv.1 kv.2) []
def xDisp (b : Bool) (r : List ((Sg → M MV) × (Sg → M MV))) : Sg → M MV := fun g => bd (xPrs r g) fun l h => if l.length ≤ 15 then
  (if b then some (.ok (.ref h.length) (h ++ [.dK (mergeM l)])) else some (.ok (.td ((mergeM l).map (·.1)) ((mergeM l).map (·.2))) h)) else none
end
/-! ### tables of the top -/
def ofV : V → MV
  | .non => .non
  | .bl b => .bl b
  | .int i => .int i
  | .str s => .str s
  | v => .raw v
theorem ofV_ok {K : PySem.W.Frag} {φ : Ph} {H : Hp} (v : V) : Rv K φ H v (ofV v) := by
  cases v <;> (unfold ofV Rv; rfl)
def mTabGet (kvs : List (Str × V)) (x : MV) : M MV := fun h => match x with
  | .str z => (kvs.lookup z).map fun v => .ok (ofV v) h
  | _ => none
def mTabIn (n : Bool) (kvs : List (Str × V)) (x : MV) : M MV := fun h => match x with
  | .str z => some (.ok (.bl (if n then !(kvs.lookup z).isSome else (kvs.lookup z).isSome)) h)
  | _ => none
section
variable {X : Cx} {K : PySem.W.Frag} {W : WX} {a : Expr} {A : Sg → M MV} {pos p : Pos} {kvs : List (Str × V)} {x : Str}
def tabR (K : PySem.W.Frag) (d : Addr) (n : Bool) : R2 := fun x y H Q => ∃ (z : Str) (r : Option Value), x = .str z ∧ y = .ref d ∧ PySem.W.nsIn K d z = some r ∧ Q (.bl (if n then !r.isSome else r.isSome)) H
theorem tab_of {n : Bool} (kb : dicB K x kvs = true) : ∀ σ H Q, tM K W (x1 (mTabIn n kvs) A) σ H Q → tOp (tabR K (He.ga K x) n) (tM K W A) (tC (.ref (He.ga K x))) σ H Q := fun σ H Q ⟨φ, g, h, R, hs, hg, e, p⟩ => bindG hs hg e p rfl fun y h1 v φ1 H1 f1 s1 g1 r1 e1 p1 => by
  unfold mTabIn at e1
  split at e1
  · rename_i z
    cases e1
    unfold Rv at r1
    rcases dicB_ns (z := z) kb with ⟨k1, k2⟩ | ⟨u, t, k1, k2, k3⟩
    · exact ⟨z, none, r1, rfl, k2, by rw [k1] at p1; exact bl_end s1 p1⟩
    · exact ⟨z, some t, r1, rfl, k2, by rw [k1] at p1; exact bl_end s1 p1⟩
  · cases e1
theorem tab_opI (ek : X.K = K) {es : Array DictEntry} {n : Nat} (D : KDict K X.w (He.ga K x) es n) : OpR X (compareOp .In) (tabR K (He.ga K x) false) := by
  subst ek
  intro pins s σ H x y v u Q I rx ry h
  exact op_in_kd D pins s σ H x y v u Q I rx ry h
theorem tab_opN (ek : X.K = K) {es : Array DictEntry} {n : Nat} (D : KDict K X.w (He.ga K x) es n) : OpR X (compareOp .NotIn) (tabR K (He.ga K x) true) := by
  subst ek
  intro pins s σ H x y v u Q I rx ry h
  exact op_notIn_kd D pins s σ H x y v u Q I rx ry h
theorem m_tabIn (ek : X.K = K) (D : ∃ es n, KDict K X.w (He.ga K x) es n) (kb : dicB K x kvs = true) (hm : X.mg x = some (.ref (He.ga K x))) (ha : PE X a (tM K W A)) (hg : Gl X x := by rfl) (hd : (x == ("__debug__" : Str)) = false := by decide) (hk : behindInMarks .In (.Name x p) = false := by rfl) : PE X (.Compare a [.In] [.Name x p] pos) (tM K W (x1 (mTabIn false kvs) A)) := by
  obtain ⟨es, n, D⟩ := D
  exact pew (pe_cmpR (tab_opI ek D) ha (pe_glob (v := .ref (He.ga K x)) hg hm rfl hd) hk) (tab_of kb)
theorem m_tabNotIn (ek : X.K = K) (D : ∃ es n, KDict K X.w (He.ga K x) es n) (kb : dicB K x kvs = true) (hm : X.mg x = some (.ref (He.ga K x))) (ha : PE X a (tM K W A)) (hg : Gl X x := by rfl) (hd : (x == ("__debug__" : Str)) = false := by decide) (hk : behindInMarks .NotIn (.Name x p) = false := by rfl) : PE X (.Compare a [.NotIn] [.Name x p] pos) (tM K W (x1 (mTabIn true kvs) A)) := by
  obtain ⟨es, n, D⟩ := D
  exact pew (pe_cmpR (tab_opN ek D) ha (pe_glob (v := .ref (He.ga K x)) hg hm rfl hd) hk) (tab_of kb)
theorem t_tabIn (ek : X.K = K) (D : ∃ es n, KDict K X.w (He.ga K x) es n) (kb : dicB K x kvs = true) (hm : X.mg x = some (.ref (He.ga K x))) (ha : PE X a (tM K W A)) (hg : Gl X x := by rfl) (hd : (x == ("__debug__" : Str)) = false := by decide) (hk : behindInMarks .In (.Name x p) = false := by rfl) : PT X (.Compare a [.In] [.Name x p] pos) (tMT K W (tsb (x1 (mTabIn false kvs) A))) := by
  obtain ⟨es, n, D⟩ := D
  exact ptw (pt_cmpR (tab_opI ek D) ha (pe_glob (v := .ref (He.ga K x)) hg hm rfl hd) hk) fun σ H Q q => tab_of kb σ H _ (tsb_of σ H Q q)
theorem t_tabNotIn (ek : X.K = K) (D : ∃ es n, KDict K X.w (He.ga K x) es n) (kb : dicB K x kvs = true) (hm : X.mg x = some (.ref (He.ga K x))) (ha : PE X a (tM K W A)) (hg : Gl X x := by rfl) (hd : (x == ("__debug__" : Str)) = false := by decide) (hk : behindInMarks .NotIn (.Name x p) = false := by rfl) : PT X (.Compare a [.NotIn] [.Name x p] pos) (tMT K W (tsb (x1 (mTabIn true kvs) A))) := by
  obtain ⟨es, n, D⟩ := D
  exact ptw (pt_cmpR (tab_opN ek D) ha (pe_glob (v := .ref (He.ga K x)) hg hm rfl hd) hk) fun σ H Q q => tab_of kb σ H _ (tsb_of σ H Q q)
theorem m_tabGet (ek : X.K = K) (D : ∃ es n, KDict K X.w (He.ga K x) es n) (kb : dicB K x kvs = true) (hm : X.mg x = some (.ref (He.ga K x))) (ha : PE X a (tM K W A)) (hp : PlainIx a) (hg : Gl X x := by rfl) (hd : (x == ("__debug__" : Str)) = false := by decide) : PE X (.Subscript (.Name x p) a pos) (tM K W (x1 (mTabGet kvs) A)) := by
  obtain ⟨es, n, D⟩ := D
  refine pew (pe_ix (kix_kdict (K := K) (w := X.w) ek rfl) (pe_glob (v := .ref (He.ga K x)) hg hm rfl hd) ha hp) fun σ H Q ⟨φ, g, h, R, hs, hg, e, p⟩ => bindG hs hg e p rfl fun y h1 v φ1 H1 f1 s1 g1 r1 e1 p1 => ?_
  unfold mTabGet at e1
  split at e1
  · rename_i z
    obtain ⟨u, hu, e1⟩ := Option.map_eq_some_iff.mp e1
    subst e1
    unfold Rv at r1
    rcases dicB_ns (z := z) kb with ⟨k1, k2⟩ | ⟨u2, t, k1, k2, k3⟩
    · rw [k1] at hu; cases hu
    · rw [k1] at hu
      cases hu
      exact ⟨He.ga K x, z, u, rfl, r1, ⟨es, n, t, D.at_, D.lit, k2, k3⟩, end_pu s1 (ofV_ok u) p1⟩
  · cases e1
theorem m_ctup {xs : List MV} {v : V} (h : PE X a (tC v)) (r : ∀ φ H, Rv K φ H v (.ctup xs)) : PE X a (tM K W (xC (.ctup xs))) := pew h fun σ H Q ⟨φ, g, h, R, hs, hg, e, p⟩ => by
  cases e
  exact end_pu hs (r _ _) p
theorem ctup_ok {ds : List He.Dv} {xs : List MV} (h : He.tupB K x ds = true) (r : ∀ φ H, Rvs K φ H (ds.map (He.Dv.v K)) xs) : ∀ φ H, Rv K φ H (.ref (He.ga K x)) (.ctup xs) := fun φ H => by
  unfold Rv
  exact ⟨_, _, rfl, He.tupB_ok h H, r φ H⟩
end
/-! ### list(text), repr -/
def rLstS : List V → Hp → VK → Prop := fun xs H Q => ∃ z, xs = [.str z] ∧ z.cps.size ≤ sizeLine ∧ ∀ l, H l = none → Q (.ref l) (upd H l (.lst (z.cps.toList.map fun c => .str ⟨#[c]⟩)))
theorem signs_vals {z : Str} {acc : Array Value} (h : ItemsOf (SignAt z) acc z.cps.size) : Vals (z.cps.toList.map fun c => V.str ⟨#[c]⟩) acc.toList := by
  obtain ⟨h1, h2⟩ := h
  have key : ∀ n, n ≤ z.cps.size → Vals ((z.cps.toList.take n).map fun c => V.str ⟨#[c]⟩) (acc.toList.take n) := by
    intro n
    induction n with
    | zero => intro _; simp; exact .nil
    | succ n ih =>
      intro hn
      have hn' : n < z.cps.toList.length := by simp; omega
      have ha : n < acc.toList.length := by simp; omega
      rw [List.take_succ_eq_append_getElem hn', List.take_succ_eq_append_getElem ha, List.map_append]
      refine (ih (by omega)).append (.cons ?_ .nil)
      obtain ⟨c, t, hc, hv⟩ := h2 n acc.toList[n] (by simp)
      have hc2 : z.cps.toList[n]? = some c := by simpa using hc
      rw [List.getElem?_eq_getElem hn'] at hc2
      rw [hv, Option.some.inj hc2]
      exact ⟨t, rfl⟩
  have := key z.cps.size (Nat.le_refl _)
  rw [List.take_of_length_le (by simp), List.take_of_length_le (by simp [h1])] at this
  exact this
theorem call_listS {X : Cx} (hc : X.calm = true) : CallR X (.type "list") rLstS := by
  intro pins s σ H xs us Q I r h
  obtain ⟨z, rfl, hz, q⟩ := h
  obtain ⟨u, rfl, t, rfl⟩ := vals1 r
  refine PySem.call_list_str (I.ok.hd hc) z t (fun h' tk acc' c' kp e it => ?_) hz
  have rv := signs_vals it
  have hl : (z.cps.toList.map fun c => V.str ⟨#[c]⟩).length ≤ sizeLine := by simpa using hz
  exact ⟨.ref s.heap.objs.size, _, I.laid (t' := tk) kp (Nat.le_refl _) (show ObjOk X.prog X.w _ h' _ (.lst (z.cps.toList.map fun c => V.str ⟨#[c]⟩)) from ⟨hl, acc'.toList, c', rv, by simpa using e⟩), rfl, q _ (I.hok.fresh (Nat.le_refl _))⟩
def mListS (b : Bool) (xs : List MV) : M MV := fun h => match xs with
  | [.str z] => if z.cps.size ≤ sizeLine then mkl b (z.cps.toList.map fun c => .str ⟨#[c]⟩) h else none
  | xs => mList b xs h
theorem o_listS {K : PySem.W.Frag} (b : Bool) : OpN K (mListS b) (fun xs H Q => rLstOf K xs H Q ∨ rLstS xs H Q) := fun {W σ φ h H vs xs R Q} s r e p => by
  unfold mListS at e
  split at e
  · split at e
    · obtain ⟨v, rfl, r1⟩ := one_inv r
      unfold Rv at r1
      subst r1
      exact .inr ⟨_, rfl, by assumption, end_mkl s (Rvs.map (fun z => by unfold Rv; rfl) _) e p⟩
    · cases e
  · exact .inl (o_list b s r e p)
/-! repr of a list, a tuple -/
def isRef : MV → Bool
  | .tup _ => true
  | .ctup _ => true
  | .tl _ => true
  | .rol _ => true
  | .ref _ => true
  | _ => false
def mRepr (xs : List MV) : M MV := fun h => match xs with
  | [x] => if isRef x = true then (match dt h 60 x with
    | some d => if d.showable = true ∧ d.hasDict = false ∧ d.shown.length ≤ sizeLine then some (.ok (.str d.shown) h) else none
    | none => none) else none
  | _ => none
theorem isRef_ok {K : PySem.W.Frag} {φ : Ph} {H : Hp} {v : V} {x : MV} (e : isRef x = true) (r : Rv K φ H v x) : ∃ a, v = .ref a := by
  cases x <;> first
    | exact absurd e Bool.false_ne_true
    | (unfold Rv at r; obtain ⟨a, _, e1, _⟩ := r; exact ⟨a, e1⟩)
    | (unfold Rv at r; obtain ⟨a, e1, _⟩ := r; exact ⟨a, e1⟩)
theorem o_repr {K : PySem.W.Frag} : OpN K mRepr (rRepr K) := fun {W σ φ h H vs xs R Q} s r e p => by
  unfold mRepr at e
  split at e
  · split at e
    · rename_i hr
      split at e
      · rename_i d q
        split at e
        · rename_i hc
          cases e
          obtain ⟨v, rfl, r1⟩ := one_inv r
          obtain ⟨a, rfl⟩ := isRef_ok hr r1
          obtain ⟨h1, h2, h3⟩ := dt_ok s 60 _ _ d r1 q
          exact ⟨a, d, rfl, h1, ⟨hc.1, hc.2.1, h3, hc.2.2⟩, str_end s p⟩
        · cases e
      · cases e
    · cases e
  · cases e
section
variable {X : Cx} {K : PySem.W.Frag} {W : WX} {pos : Pos}
/-! ### displays of dicts -/
theorem mergeM_ok {φ : Ph} {H : Hp} : ∀ {l : List (Key × V)} {m : List (Key × MV)} {a : List (Key × V)} {b : List (Key × MV)}, l.map (·.1) = m.map (·.1) → Rvs K φ H (l.map (·.2)) (m.map (·.2)) → a.map (·.1) = b.map (·.1) → Rvs K φ H (a.map (·.2)) (b.map (·.2)) →
    (l.foldl (fun acc kv => putK acc kv.1 kv.2) a).map (·.1) = (m.foldl (fun acc kv => putM acc kv.1 kv.2) b).map (·.1) ∧ Rvs K φ H ((l.foldl (fun acc kv => putK acc kv.1 kv.2) a).map (·.2)) ((m.foldl (fun acc kv => putM acc kv.1 kv.2) b).map (·.2))
  | [], [], a, b, _, _, e, r => ⟨e, r⟩
  | [], _ :: _, _, _, e, _, _, _ => by cases e
  | _ :: _, [], _, _, e, _, _, _ => by cases e
  | (k1, v) :: l, (k2, x) :: m, a, b, e, r, e2, r2 => by
    simp only [List.map_cons, List.cons.injEq] at e
    obtain ⟨e1, e3⟩ := e
    subst e1
    obtain ⟨c, d⟩ := rvs_inv (by simpa using r)
    obtain ⟨p1, p2⟩ := put_ok (k := k1) c e2 r2
    exact mergeM_ok (l := l) (m := m) e3 d p1 p2
theorem prs_of : ∀ (r : List ((Sg → M MV) × (Sg → M MV))) (σ : L2.St) (H : Hp) (Q : List (V × V) → Hp → Prop),
    tG (fun φ H (ps : List (V × V)) (m : List (Key × MV)) => ∃ l : List (Key × V), ps = l.map (fun kv => (kV kv.1, kv.2)) ∧ l.map (·.1) = m.map (·.1) ∧ Rvs K φ H (l.map (·.2)) (m.map (·.2))) K W (xPrs r) σ H Q →
    tPairs (r.map fun q => (tM K W q.1, tM K W q.2)) σ H Q
  | [], σ, H, Q, ⟨φ, g, h, R, hs, hg, e, p⟩ => by
    cases e
    exact p [] φ H (Fr.refl _ _) hs ⟨[], rfl, rfl, rvs_nil⟩
  | (A, B) :: r, σ, H, Q, ⟨φ, g, h, R, hs, hg, e, p⟩ => bindG hs hg e p rfl fun k h1 v φ1 H1 f1 s1 g1 r1 e1 p1 => bindG s1 g1 e1 p1 rfl fun x h2 w φ2 H2 f2 s2 g2 r2 e2 p2 => by
    split at e2
    · rename_i key qk
      have ev := keyOf_ok qk r1
      subst ev
      refine prs_of r σ H2 _ ?_
      unfold bd at e2
      cases q : xPrs r g h2 with
      | none => rw [q] at e2; cases e2
      | some R3 =>
        rw [q] at e2
        refine ⟨φ2, g, h2, R3, s2, g2, q, ?_⟩
        cases R3 with
        | ex ee h3 => cases e2; exact p2
        | ok m h3 =>
          cases e2
          rintro ps φ3 H3 f3 s3 ⟨l, rfl, l1, l2⟩
          exact p2 _ φ3 H3 f3 s3 ⟨(key, w) :: l, rfl, by simp [l1], rvs_cons (s2.rv f3 r2) l2⟩
    · cases e2
theorem m_disp (b : Bool) {keys : List (Option Expr)} {values : List Expr} {r : List ((Sg → M MV) × (Sg → M MV))} (h : PPm X K W pos keys values r) (hall : keys.all (·.isSome) = true) (hl : keys.length = values.length) (h0 : keys ≠ []) (h15 : keys.length ≤ 15) :
    PE X (.Dict keys values pos) (tM K W (xDisp b r)) := pew (pe_disp h.pp hall hl h0 h15) fun σ H Q ⟨φ, g, h, R, hs, hg, e, p⟩ => by
  intro D hD
  have f0 : FrB φ (φ.ban D) H (upd H D (.dK [])) := FrB.ban hD
  have s0 := hs.ban (u := .dK []) hD rfl
  have g0 := hg.monoB hs.lv f0
  refine prs_of r σ _ _ ?_
  unfold xDisp bd at e
  cases q : xPrs r g h with
  | none => rw [q] at e; cases e
  | some R1 =>
    rw [q] at e
    refine ⟨φ.ban D, g, h, R1, s0, g0, q, ?_⟩
    have nD : D ∉ φ.a := (hs.notin hD).na
    have nb : D ∉ φ.b := (hs.notin hD).nb
    cases R1 with
    | ex ee h1 =>
      cases e
      intro C d φ' H' f s' re
      have hb : φ'.b = D :: φ.b := f.bb
      have hd : H' D = some (.dK []) := f.keep D _ upd_same nD
      have hk : ∀ b o, H b = some o → b ∉ φ.a → H' b = some o := fun b o e n => f.keep b o (by rw [upd_ne (ne_of_none e hD)]; exact e) n
      have hn : ∀ b, b ∈ φ'.a → b ∉ φ.a → H b = none := fun b m n => by
        have z := f.new b m n
        by_cases hz : b = D
        · rw [hz]; exact hD
        · rw [upd_ne hz] at z; exact z
      have f2 : FrB φ' ⟨φ'.a, φ.b⟩ H' H' := FrB.free hb
      refine p C d ⟨φ'.a, φ.b⟩ H' ⟨f.pre, rfl, hk, hn⟩ (s'.free hb) ⟨re.1, ?_⟩
      cases hv : ee.val with
      | none =>
        have z := re.2
        rw [hv] at z
        exact z
      | some q =>
        obtain ⟨fl, x⟩ := q
        have z := re.2
        rw [hv] at z
        obtain ⟨dx, v, z1, z2, z3⟩ := z
        exact ⟨dx, v, z1, z2, s'.rvB f2 z3⟩
    | ok m h1 =>
      dsimp only at e
      split at e
      · rename_i hm
        rintro ps φ' H' f s' ⟨l, rfl, l1, l2⟩
        have hb : φ'.b = D :: φ.b := f.bb
        have mD : D ∈ φ'.b := by rw [hb]; exact List.mem_cons_self ..
        have hd : H' D = some (.dK []) := f.keep D _ upd_same nD
        have hll : l.length = m.length := by
          have := congrArg List.length l1
          rwa [List.length_map, List.length_map] at this
        refine ⟨hd, l, rfl, by omega, ?_⟩
        obtain ⟨m1, m2⟩ := mergeM_ok (K := K) (φ := φ') (H := H') (a := []) (b := []) l1 l2 rfl rvs_nil
        have fg : FrB φ' φ' H' (upd H' D (.dK (mergeK [] l))) := FrB.grow mD
        have sg := s'.grow (u := .dK (mergeK [] l)) mD rfl
        have m3 := s'.rvsB fg m2
        have hk : ∀ b o, H b = some o → b ∉ φ.a → upd H' D (.dK (mergeK [] l)) b = some o := fun b o e n => by
          rw [upd_ne (ne_of_none e hD)]
          exact f.keep b o (by rw [upd_ne (ne_of_none e hD)]; exact e) n
        have hn : ∀ b, b ∈ φ'.a → b ∉ φ.a → H b = none := fun b m n => by
          have z := f.new b m n
          by_cases hz : b = D
          · rw [hz]; exact hD
          · rw [upd_ne hz] at z; exact z
        cases b with
        | false =>
          cases e
          have f2 : FrB φ' ⟨φ'.a, φ.b⟩ (upd H' D (.dK (mergeK [] l))) (upd H' D (.dK (mergeK [] l))) := FrB.free hb
          refine p (.ref D) ⟨φ'.a, φ.b⟩ _ ⟨f.pre, rfl, hk, hn⟩ (sg.free hb) ?_
          unfold Rv
          have hz : ∀ {κ α : Type} (L : List (κ × α)), L = (L.map (·.1)).zip (L.map (·.2)) := fun {κ α} L => by
            induction L with
            | nil => rfl
            | cons q L ih => rw [List.map_cons, List.map_cons, List.zip_cons_cons, ← ih]
          refine ⟨D, (mergeK [] l).map (·.2), rfl, ?_, ⟨(sg.bn D mD).1, nb⟩, ?_, sg.rvsB f2 m3⟩
          · rw [upd_same]
            have hh : (mergeM m).map (·.1) = (mergeK [] l).map (·.1) := m1.symm
            rw [hh, ← hz]
          · have hh : (mergeM m).map (·.1) = (mergeK [] l).map (·.1) := m1.symm
            rw [hh, List.length_map, List.length_map]
        | true =>
          cases e
          refine p (.ref D) ⟨φ'.a ++ [D], φ.b⟩ _ ⟨f.pre.trans (List.prefix_append _ _), rfl, hk, fun b m n => ?_⟩ (sg.own hb nb upd_same (show Ro K φ' _ (.dK (mergeK [] l)) (.dK (mergeM m)) from ⟨m1, m3⟩)) ?_
          · rcases List.mem_append.mp m with z | z
            · exact hn b z n
            · rw [List.mem_singleton.mp z]; exact hD
          · unfold Rv
            refine ⟨D, rfl, ?_⟩
            show (φ'.a ++ [D])[h1.length]? = some D
            rw [← s'.len, List.getElem?_append_right (Nat.le_refl _)]
            simp
      · cases e
end
end Mi
namespace Mi
open PySem PySem.Spec PyProof.Rows L2 Ob StX
theorem kcall_reprG {X : Cx} {K : PySem.W.Frag} {k : Nat} (ek : X.K = K) (hr : RoomG k X.A) : CallR X (.builtin "repr") (rRepr K) := by subst ek; exact call_reprG hr
end Mi
namespace Mi
open PySem PySem.Spec PyProof.Rows L2 Ob StX
theorem a_add {X : Cx} {K : PySem.W.Frag} (ek : X.K = K) : OpR X (binaryOp .Add) (or2 (or2 rAddI rAddS) (or2 (rCatA K) rCat)) := by subst ek; exact Mi.OpR.or (Mi.OpR.or op_add op_add_str) (Mi.OpR.or op_catA op_cat)
theorem a_mul {X : Cx} {K : PySem.W.Frag} (ek : X.K = K) : OpR X (binaryOp .Mult) (or2 (or2 (rI Mi.CMulA fun i j => .int (i * j)) Mi.rMulS) (or2 (rRepT K) rRep)) := by subst ek; exact Mi.OpR.or (Mi.OpR.or Mi.op_mulA Mi.op_mulStr) (Mi.OpR.or op_repT op_rep)
theorem a_list {X : Cx} {K : PySem.W.Frag} (ek : X.K = K) (hc : X.calm = true) : CallR X (.type "list") (fun xs H Q => rLstOf K xs H Q ∨ rLstS xs H Q) := L2.CallR.or (kcall_list ek) (call_listS hc)
theorem a_pop {X : Cx} : MtR X "list.pop" (fun x vs H Q => rPop x vs H Q ∨ rPopAt x vs H Q) := MtR.or mt_pop mt_popAt
end Mi
namespace Mi
open PySem PySem.Spec PyProof.Rows L2 Ob StX
/-- def f(a, *b) -/
def fnMS (n : Nat) (B : MS) : List MV → M MV := fun xs h => match xs with
  | x :: r => if r.length ≤ 1000 then fin (B ([some x, some (.tup r)] ++ List.replicate (n - 2) none) h) else none
  | [] => none
section
variable {fa : List He.Fa} {fn : List He.DefD} {ts : List He.Tab} {ex : PySem.W.Frag → Bool} {w : World} {K : PySem.W.Frag} {mg : Str → Option Value} {P : Program} {base : Heap} {k : Nat}
theorem okMS (T : Tp fa fn ts ex w K mg) (i : Nat) {d : He.DefD} {N : List Str} {p1 pv : Str} {B : MS} (h : fn[i]? = some d) (hd : d.dfl = []) (hk : d.kwd = []) (S : FnScope N [p1, pv] d.scope)
    (h0 : ∀ (kV doc pm : Value) (an : Option Addr) (cdv ct : Value) (a : Value), bindArgs (PySem.W.fnOf d.name d.qual d.params d.body d.scope .none kV doc pm an cdv ct) ⟨[a], []⟩ = (newTuple [] >>= fun t => pure [(p1, a), (pv, t)]))
    (h1 : ∀ (kV doc pm : Value) (an : Option Addr) (cdv ct : Value) (a r : Value) (rs : List Value), bindArgs (PySem.W.fnOf d.name d.qual d.params d.body d.scope .none kV doc pm an cdv ct) ⟨a :: r :: rs, []⟩ = (newTuple (r :: rs) >>= fun t => pure [(p1, a), (pv, t)]))
    (hbody : ∀ (cdv : Value) (A : Around) (outer : List Env) (s : Shared) (H : Hp) (E : XK), Room k (A.deeper (envOfC d.qual d.scope s.heap.objs.size (He.fAd K d.at_) cdv)) →
      Takes (cxOf (L2.CX P w) P w K mg base N d.qual d.scope (He.fAd K d.at_) cdv A outer s H E) (fun c d _ H => E c d H) → PassesOwn (model P w) (A.deeper (envOfC d.qual d.scope s.heap.objs.size (He.fAd K d.at_) cdv)) (envOfC d.qual d.scope s.heap.objs.size (He.fAd K d.at_) cdv) (cxOf (L2.CX P w) P w K mg base N d.qual d.scope (He.fAd K d.at_) cdv A outer s H E).xe →
      PSs (cxOf (L2.CX P w) P w K mg base N d.qual d.scope (He.fAd K d.at_) cdv A outer s H E) d.body (tS K (fun c d _ H => E c d H) B)) :
    FnM P w K mg base (k + 1) (He.fAd K d.at_) (fnMS N.length B) := by
  obtain ⟨fd, F⟩ := T.c.def_ i h
  have e1 : d.dvs K = [] := by unfold He.DefD.dvs; rw [hd]; rfl
  have e2 : d.kws K = [] := by unfold He.DefD.kws; rw [hk]; rfl
  rw [e1, e2] at F
  obtain ⟨oc, od, dV, kV, doc, pm, an, cdv, ct, osl, rfl, lk, hcd, hD, hK⟩ := F.ex
  rcases hD with ⟨_, rfl⟩ | ⟨e, _⟩
  · refine FnR.imp (fn_star (ps := [p1]) (sp := spM K (fnM 2 N.length B)) lk hcd S cxUp (bind_star1 (B := fun us => bindArgs (PySem.W.fnOf d.name d.qual d.params d.body d.scope .none kV doc pm an cdv ct) ⟨us, []⟩) (h0 kV doc pm an cdv ct) (h1 kV doc pm an cdv ct))
      fun A outer s H vs Q E hr q => ⟨_, hbody cdv A outer s H E hr (takes_of rfl rfl rfl rfl) (passes_of rfl), fn_read q⟩) fun vs H Q E q => ?_
    obtain ⟨φ, h, xs, r, s, rx, e, pp⟩ := q
    unfold fnMS at e
    split at e
    · rename_i x t
      split at e
      · rename_i hl
        obtain ⟨v, us, rfl, r1, r2⟩ := rvs_invr rx
        refine ⟨[v], us, rfl, rfl, by rw [r2.length, sizeLine_eq]; omega, fun p hp => ?_⟩
        have f0 : Fr φ φ H (upd H p (.tup us)) := Fr.out hp
        refine ⟨φ, h, [x, .tup t], r, s.out hp, rvs_cons (s.rv f0 r1) (rvs_cons ?_ rvs_nil), ?_, pp.mono f0⟩
        · unfold Rv
          exact ⟨p, us, rfl, upd_same, s.rvs f0 r2⟩
        · unfold fnM
          rw [if_pos (show [x, MV.tup t].length = 2 from rfl)]
          exact e
      · cases e
    · cases e
  · exact absurd rfl e
end
end Mi
/-! Mi: own exceptions: classes whose __init__ keeps one field, raise, try .. except -/
namespace Mi
open PySem PySem.Spec PyProof.Rows L2 Ob StX PySem.W
open Builtin Builtin.ObjectAttr
/-! ### the text of __init__ -/
def iA (p : Str) (p1 p2 : Pos) : Arguments := { posonlyargs := [], args := [{ arg := "self", annotation := none, pos := p1 }, { arg := p, annotation := none, pos := p2 }], vararg := none, kwonlyargs := [], kw_defaults := [], kwarg := none, defaults := [] }
def iB (f p : Str) (q1 q2 q3 q4 : Pos) : List Stmt := [.Assign [.Attribute (.Name "self" q1) f q2] (.Name p q3) q4]
def iS (p : Str) : Scope := { kind := .function, names := [(PySem.Str.ofString "self", .local), (p, .local)], isGenerator := false, isCoroutine := false, more := [] }
/-- what the written part says of a class, at C, whose __init__ is at fI -/
def exiB (K : Frag) (c f : Str) (bm : List Value) (nw : String) : Bool :=
  excInitIn K (He.ga K c) bm nw && (excOver K (He.ga K c) bm && (hasDictIn K (He.ga K c) && (He.eqO (findIn K (.ref (He.ga K c)) "__setattr__") (some (some (.builtin "object.__setattr__"))) &&
  (He.eqO (findIn K (.ref (He.ga K c)) "__getattribute__") (some (some (.builtin "BaseException.__getattribute__"))) && (He.eqO (findIn K (.ref (He.ga K c)) "__getattr__") (some none) && (He.eqO (findIn K (.ref (He.ga K c)) f) (some none) &&
  (He.eqO (findIn K (.ref (He.ga K c)) "__init__") (some (some (.ref (He.ma K (He.ga K c) "__init__")))) && (decide (typeIn K (.ref (He.ma K (He.ga K c) "__init__")) = some (.type "function")) && (keepIn K (.ref (He.ga K c)) &&
  (decide (subIn K (.ref (He.ga K c)) (.type "BaseException") = some true) && decide (typeIn K (.ref (He.ga K c)) = some (.type "type"))))))))))))
structure EI (K : Frag) (mg : Str → Option Value) (C fI : Addr) (c f p : Str) (bmB : List Value) (B newId initId : String) : Prop where
  F : ExcBaseFacts B newId initId bmB
  pass : ∀ self, refuseLoop self "__setattr__" bmB = pure ()
  obj : bmB.contains (.type "object") = true
  gC : mg c = some (.ref C)
  ini : excInitIn K C bmB newId = true
  ov : excOver K C bmB = true
  hdC : hasDictIn K C = true
  sa : findIn K (.ref C) "__setattr__" = some (some (.builtin "object.__setattr__"))
  ga : findIn K (.ref C) "__getattribute__" = some (some (.builtin "BaseException.__getattribute__"))
  gg : findIn K (.ref C) "__getattr__" = some none
  noN : findIn K (.ref C) f = some none
  iC : findIn K (.ref C) "__init__" = some (some (.ref fI))
  tC : typeIn K (.ref fI) = some (.type "function")
  kC : keepIn K (.ref C) = true
  exC : subIn K (.ref C) (.type "BaseException") = some true
  tyC : typeIn K (.ref C) = some (.type "type")
  pn : (p == ("__debug__" : Str)) = false
  bd : ∀ (q : Str) (kV doc pm : Value) (an : Option Addr) (cdv ct x v : Value) (p1 p2 q1 q2 q3 q4 : Pos), bindArgs (fnOf "__init__" q (iA p p1 p2) (iB f p q1 q2 q3 q4) (iS p) .none kV doc pm an cdv ct) ⟨[x, v], []⟩ = pure [(("self" : Str), x), (p, v)]
  kd : ∀ x v : Value, (([(("self" : Str), x), (p, v)] : List (Str × Value)).all fun y => (iS p).names.lookup y.1 == some .local || (iS p).names.lookup y.1 == some .cell) = true
  kp : ∀ (q : Str) (sz a : Addr) (cdv : Value), (envOfC q (iS p) sz a cdv).kindOf p = some .local ∧ (envOfC q (iS p) sz a cdv).kindOf "self" = some .local
  bl : ∀ (q : Str) (sz a : Addr) (cdv x v : Value), bindL (envOfC q (iS p) sz a cdv).kindOf [(("self" : Str), x), (p, v)] (fun _ => none) p = some v ∧ bindL (envOfC q (iS p) sz a cdv).kindOf [(("self" : Str), x), (p, v)] (fun _ => none) "self" = some x
  fn : ∃ (oc : Value) (od : Option Addr) (q : Str) (kV doc pm : Value) (an : Option Addr) (cdv ct : Value) (osl : Array (Option Value)) (p1 p2 q1 q2 q3 q4 : Pos),
    K.lookup fI = some ⟨oc, od, .func (fnOf "__init__" q (iA p p1 p2) (iB f p q1 q2 q3 q4) (iS p) .none kV doc pm an cdv ct), osl⟩ ∧ codeIn K cdv q = true
section
variable {prog : Program} {w : World} {A : Around} {E : Value → Shared → Prop} {R : Result → Shared → Prop} {hp : Heap} {g : Array GenState} {d : Drawn} {t : Nat} {os : OsState}
theorem exc_osaG {K : Frag} {name : Str} {tk : Tok} {v : Value} {x C : Addr} {fv : Array Value} {cd : ClassData} {bmB : List Value}
    (X : K.In hp) (hx : hp.get? x = some { cls := .ref C, data := .fields fv }) (hcd : clsIn K C = some cd) (hps : ∀ self, refuseLoop self "__setattr__" bmB = pure ()) (hobj : bmB.contains (.type "object") = true) (hm : excTail bmB cd.mro = true) (hh : cd.hasDict = true) (ha : findIn K (.ref C) name = some none)
    (hq : ∀ h' tk' dx, (∀ b o, b ≠ x → hp.get? b = some o → h'.get? b = some o) → hp.objs.size ≤ dx → dx ≠ x → h'.get? x = some { cls := .ref C, dict := some dx, data := .fields fv } →
      h'.Ns1 dx (fun y => if y = name then some v else none) → R (.ok (.ret .none)) ⟨h', g, d, tk', os⟩) :
    codeAny (model prog w) A (.call (.builtin "object.__setattr__") ⟨[.ref x, .str name tk, v], []⟩) R ⟨hp, g, d, t, os⟩ := by
  have I : InstAt hp x { cls := .ref C, data := .fields fv } C none := ⟨hx, rfl, rfl, trivial⟩
  have SF := F.store_object
  have hob : cd.mro.contains (.type "object") = true := (excTail_contains "object" _ hm).trans hobj
  have ne : cd.mro.isEmpty = false := by
    cases q : cd.mro with
    | nil => rw [q] at hob; cases hob
    | cons _ _ => rfl
  have hxs : x ≠ hp.objs.size := Nat.ne_of_lt (Heap.lt_size hx)
  have sub : Looks (model prog w) hp (isInstance (.ref x) (.type "object")) true := I.type.andThen (looks_mroIn X (by unfold mroIn; rw [hcd, Option.bind_some, if_neg (by rw [ne]; decide), hob]))
  refine codeAny_call_builtin SF.slot.plain SF.entry (@check_slot (model prog w) _ _ ⟨hp, g, d, t, os⟩ "object.__setattr__" "object" "__setattr__" (.ref x) [.str name tk, v] [] _ SF.kind SF.split sub (SF.args (.ref x) (.str name tk) v) ?_)
  have hmr : Looks (model prog w) hp (mroOf (.ref C)) cd.mro := (looks_clsIn X hcd).andThen .now
  have L3 : Looks (model prog w) hp (storeTaker? none) none := .now
  have hcls : Looks (model prog w) hp (classData C) cd := looks_clsIn X hcd
  rw [osa_eq, refuse_eq]
  refine wpAny_bind (wpAny_bind (I.type.at (wpAny_bind (hmr.at ?_))))
  rw [excTail_pass _ (hps _) _ hm]
  refine wpAny_pure (wpAny_bind (I.type.at (wpAny_bind ((looks_findIn X ha).at (wpAny_bind (L3.at ?_))))))
  show wpAny _ _ (Builtin.ObjectAttr.storeInOwnDict (.ref x) (.ref C) (.str name tk) name v false) _ _ _
  obtain ⟨nm, bs, mro, ns, qn, hd, sn, sb, ab, col, del⟩ := cd
  dsimp only at hh
  subst hh
  unfold Builtin.ObjectAttr.storeInOwnDict Builtin.ObjectAttr.ownDictForStores
  repeat (first | with_reducible refine PySem.HandSPX.store_in_new ?_ ?_ | with_reducible refine wpAny_loadPart_at hx ?_ | with_reducible refine hcls.at ?_ | wp_step)
  · exact ⟨_, #[], _, (Heap.get?_update_ne _ _ _ _ hxs.symm).trans (Heap.get?_push_at rfl rfl), rfl, fun e he => absurd he (by simp), fun _ => rfl⟩
  · intro h' tk' hn' hs
    have hx₁ : (hp.push { cls := .type "dict", data := .dict #[] }).get? x = some { cls := .ref C, data := .fields fv } := Heap.get?_push_of_some _ hx
    refine hq h' tk' hp.objs.size (fun b o hb ho => ?_) (Nat.le_refl _) hxs.symm ?_ hn'
    · exact (hs.2 b (Nat.ne_of_lt (Heap.lt_size ho))).trans ((Heap.get?_update_ne _ _ _ _ hb).trans (Heap.get?_push_of_some _ ho))
    · exact (hs.2 x hxs).trans (Heap.get?_update_self _ hx₁ rfl)
end
theorem ldC {M : Model} {s : Shared} {name : Str} {scope : Scope} {L a : Addr} {cd : Value} {m : Str → Option Value} {x : Str} {pos : Pos} {v : Value} {Q : Value → Shared → Prop} {A : Around} {E : Value → Shared → Prop} (hn : s.heap.Ns L m) (hv : m x = some v) (h : Q v s)
    (hk : scope.kind = .function := by rfl) (hl : (envOfC name scope L a cd).kindOf x = some .local := by rfl) (hd : (x == ("__debug__" : Str)) = false := by decide) :
    wpAny M A (eval (.Name x pos) (envOfC name scope L a cd)) Q E s := wpAny_Name (wpAny_loadName_local hk hl hn hv h) hd
/-- what __init__ leaves of a fresh exception at x -/
structure InitEnd (f : Str) (h h' : Heap) (x C dx t1 : Addr) (v : Value) : Prop where
  keep : ∀ b o, b ≠ x → h.get? b = some o → h'.get? b = some o
  obj : h'.get? x = some { cls := .ref C, dict := some dx, data := .fields #[.ref t1, .none, .none, .none, .bool false, .none] }
  dbig : h.objs.size ≤ dx
  dne : dx ≠ x
  ns : h'.Ns1 dx (fun y => if y = f then some v else none)
/-- one that was made -/
structure OwnMade (f : Str) (h h' : Heap) (e C d : Addr) (v : Value) : Prop where
  keep : ∀ b o, h.get? b = some o → h'.get? b = some o
  new : h.objs.size ≤ e
  obj : ∃ oe vs, h'.get? e = some oe ∧ oe.cls = .ref C ∧ oe.dict = some d ∧ oe.data = .fields vs ∧ vs[1]? = some .none
  dbig : h.objs.size ≤ d
  dne : d ≠ e
  ns : h'.Ns1 d (fun y => if y = f then some v else none)
theorem one_size (v : Value) : [v].length ≤ sizeLine := by
  rw [sizeLine_eq]
  exact (by decide : 1 ≤ 16777216)
section
variable {prog : Program} {w : World} {A : Around} {E : Value → Shared → Prop} {R : Result → Shared → Prop} {s : Shared} {K : Frag} {mg : Str → Option Value} {C fI : Addr} {c f p : Str} {bmB : List Value} {B newId initId : String}
theorem ei_init (T : EI K mg C fI c f p bmB B newId initId) {x t0 : Addr} {v : Value} (X : K.In s.heap) (hlim : s.heap.NoLimit) (hx : s.heap.get? x = some (PySem.HandSPX.excO C t0)) (hnx : K.lookup x = none) (hroom : A.depth < recursionLimit)
    (hq : ∀ h' tk dx, InitEnd f s.heap h' x C dx t0 v → R (.ok (.ret .none)) { s with heap := h', toks := tk }) :
    codeAny (model prog w) A (.call (.ref fI) ⟨[.ref x, v], []⟩) R s := by
  obtain ⟨oc, od, q, kV, doc, pm, an, cdv, ct, osl, p1, p2, q1, q2, q3, q4, ho, hcd⟩ := T.fn
  obtain ⟨cd, hcl, hd⟩ := any_some T.hdC
  have hmr : excTail bmB cd.mro = true := by
    obtain ⟨cd2, hcl2, h2⟩ := any_some T.ov
    rw [hcl] at hcl2
    cases hcl2
    revert h2
    split
    · rename_i C' bm e
      intro h2
      rw [e]
      exact (Bool.and_eq_true_iff.mp h2).2
    · intro h2; cases h2
  refine Att.call_fn (binds := [(("self" : Str), .ref x), (p, v)]) X hlim ho hcd hroom (BindsTo.of_eq (T.bd q kV doc pm an cdv ct (.ref x) v p1 p2 q1 q2 q3 q4)) (T.kd (.ref x) v) (fun s₁ IC => ?_) rfl rfl rfl
  obtain ⟨h₁, tk₁, rfl⟩ := IC.toInCall.same
  have k : ∀ b o, s.heap.get? b = some o → h₁.get? b = some o := IC.toInCall.keep
  have hn := IC.toInCall.ns
  have hxL : s.heap.objs.size ≠ x := Nat.ne_of_gt (Heap.lt_size hx)
  have X₁ : K.In h₁ := X.keeps k
  have hx₁ := k _ _ hx
  -- self.f = p
  show wpAny _ _ (execs _ _) _ _ _
  refine wpAny_execs_cons (plainObj_wpAny_Assign_Attribute ?_)
  refine ldC (v := v) hn (T.bl _ _ _ _ _ _).1 (ldC (v := .ref x) hn (T.bl _ _ _ _ _ _).2 ?_ rfl (T.kp _ _ _ _).2) rfl (T.kp _ _ _ _).1 T.pn
  refine set_plain X₁ (ox := PySem.HandSPX.excO C t0) (od := none) ⟨hx₁, rfl, rfl, trivial⟩ T.sa ?_
  refine exc_osaG X₁ hx₁ hcl T.pass T.obj hmr hd T.noN (fun h₃ tk₃ dx k₃ dn dne hx₃ hn₃ => ?_)
  show wpAny _ _ (execs _ _) _ _ _
  have z : s.heap.objs.size < h₁.objs.size := hn.lt
  exact wpAny_execs_nil (hq h₃ tk₃ dx ⟨fun b o hb e => k₃ b o hb (k b o e), hx₃, Nat.le_of_lt (Nat.lt_of_lt_of_le z dn), dne, hn₃⟩)
theorem ei_made (T : EI K mg C fI c f p bmB B newId initId) {v : Value} (X : K.In s.heap) (hlim : s.heap.NoLimit) (hroom : A.depth + 1 < recursionLimit)
    (hq : ∀ h' tk e d, OwnMade f s.heap h' e C d v → R (.ok (.ret (.ref e))) { s with heap := h', toks := tk }) :
    codeAny (model prog w) A (.call (.ref C) ⟨[v], []⟩) R s := by
  obtain ⟨nm, N, q, bs, bm, hdct, sn, sub, ab, col, dd, k0, k1, k2, k3, k5, hC, hT⟩ := excInit_of X T.ini
  obtain ⟨hp, g, dr, tk, os⟩ := s
  have k : ∀ b o, hp.get? b = some o → ((hp.push (kdv_tup [v])).push (PySem.HandSPX.excO C hp.objs.size)).get? b = some o := fun b o e => Heap.get?_push_of_some _ (Heap.get?_push_of_some _ e)
  have hget : ((hp.push (kdv_tup [v])).push (PySem.HandSPX.excO C hp.objs.size)).get? (hp.objs.size + 1) = some (PySem.HandSPX.excO C hp.objs.size) := by heap_get
  have hnx : K.lookup (hp.objs.size + 1) = none := by
    cases e : K.lookup (hp.objs.size + 1) with
    | none => rfl
    | some o =>
      have z : hp.get? (hp.objs.size + 1) = some o := X _ _ e
      exact absurd (Nat.lt_of_succ_lt (Heap.lt_size z)) (Nat.lt_irrefl _)
  refine PySem.HandSPX.call_own T.F hT hC (looks_findIn X T.iC) (fun self => bind_fn X self T.tC) (one_size v) ?_
  refine ei_init (s := ⟨(hp.push (kdv_tup [v])).push (PySem.HandSPX.excO C hp.objs.size), g, dr, tk, os⟩) T (X.keeps k) (hlim.keeps k) hget hnx ?_ fun h' tk' dx ⟨k', hx, dn, dne, hns⟩ => ?_
  · show A.depth + 1 < recursionLimit
    exact hroom
  · have old : ∀ b o, hp.get? b = some o → h'.get? b = some o := fun b o e => k' b o (Nat.ne_of_lt (Nat.lt_succ_of_lt (Heap.lt_size e))) (k b o e)
    have z : hp.objs.size + 1 + 1 ≤ dx := by
      first
        | (simpa only [Heap.size_push] using dn)
        | exact dn
        | (have q := dn; rw [Heap.size_push, Heap.size_push] at q; exact q)
    exact ⟨rfl, hq h' tk' (hp.objs.size + 1) dx ⟨old, Nat.le_succ _, ⟨_, _, hx, rfl, rfl, rfl, rfl⟩, Nat.le_trans (Nat.le_trans (Nat.le_succ _) (Nat.le_succ _)) z, dne, hns⟩⟩
end
theorem relO_one {v : V} {v' : Value} {n : Str} (r : RelV v v') (f : Str) : RelO (List.lookup f [(n, v)]) (if f = n then some v' else none) := by
  by_cases hw : f = n
  · subst hw
    rw [if_pos rfl]
    have q : List.lookup f [(f, v)] = some v := by simp [List.lookup]
    rw [q]
    exact r
  · rw [if_neg hw]
    have qw : (f == n) = false := by simpa using hw
    have q2 : List.lookup f [(n, v)] = none := by simp [List.lookup, qw]
    rw [q2]
    trivial
section
variable {X : Cx} {C fI : Addr} {c f q : Str} {bmB : List Value} {B newId initId : String} {K : Frag} {W : WX}
/-- C(e) -/
def tMkI (C : Addr) (f : Str) (ta : TA) : L2.St → Hp → XK → Prop := fun σ H Q => ta σ H fun vs H1 => ∃ v, vs = [v] ∧ ∀ d, H1 d = none → Q (.ref C) (some d) (upd H1 d (.xd [(f, v)]))
theorem pmk_ei {a : Expr} {ta : TA} {p pos : Pos} {k : Nat} (T : EI X.K X.mg C fI c f q bmB B newId initId) (hr : Room k X.A) (ha : PA X [a] ta) (hg : Gl X c := by rfl) (hdb : (c == ("__debug__" : Str)) = false := by decide)
    (he : starEach (a :: []) X.env = (false, eval a X.env) :: starEach [] X.env := by rfl) (hpl : (backTo pos (starEach [] X.env)).any (·.1) = false := by rfl) :
    PMk X (.Call (.Name c p) [a] [] pos) (tMkI C f ta) := by
  intro pins s σ H Q I h
  refine wpAny_Call_Name_kw (ld_glob I hg T.gC ?_ hdb)
  refine PySem.W.callWith_K (h₀ := X.base) I.ok.mod.kin T.kC (thn (ha.run pos pins s σ H _ I h) fun us s1 hh => ?_) he hpl
  obtain ⟨vs, H1, I1, r1, v, ev, q1⟩ := hh
  subst ev
  refine ⟨I1.kIn, ?_⟩
  cases r1 with
  | cons rv rn =>
    rename_i v' us'
    cases rn
    show wpAny _ _ (call (.ref C) [v']) _ _ _
    have hlim := I1.nolimit
    obtain ⟨hp, g, dr, tk, os⟩ := s1
    refine wpAny_call (ei_made T I1.kIn hlim (by have := hr.dp; omega) fun h' tk' e d M => ?_)
    show MkP X pins σ Q (.ref e) ⟨h', g, dr, tk', os⟩
    obtain ⟨oe, fv, hoe, hc, hd, hdat, h1⟩ := M.obj
    have hns := M.ns
    obtain ⟨G', g1, g2⟩ := restrict h' fun b => decide (b ≠ e)
    have gk : ∀ b, b ≠ e → G'.get? b = h'.get? b := fun b hb => g1 b (decide_eq_true hb)
    have ge : G'.get? e = none := g2 e (by simp)
    have old : ∀ b o, hp.get? b = some o → G'.get? b = some o := fun b o q => (gk b (Nat.ne_of_lt (Nat.lt_of_lt_of_le (Heap.lt_size q) M.new))).trans (M.keep b o q)
    have ob : ObjOk X.prog X.w (upd H1 d (.xd [(f, v)])) G' d (.xd [(f, v)]) :=
      ⟨_, hns.at (fun o q => (gk d M.dne).trans q), fun y => relO_one rv y⟩
    have J : Inv X pins σ (upd H1 d (.xd [(f, v)])) ⟨G', g, dr, tk', os⟩ := I1.laid (t' := tk') old M.dbig ob
    refine ⟨e, oe, fv, ⟨G', g, dr, tk', os⟩, _, .ref C, some d, rfl, J, fun b o q => ?_, ge, hoe, ⟨hc, hd⟩, hdat, h1, ?_, rfl, I1.bare, raises_own T.exC T.tyC, q1 d (I1.hok.fresh M.dbig)⟩
    · by_cases hb : b = e
      · have q' : G'.get? b = some o := q
        rw [hb, ge] at q'; cases q'
      · exact (gk b hb).symm.trans q
    · rw [upd_ne (Ne.symm M.dne)]
      exact I1.hok.fresh M.new
/-! ### raise -/
def sRaise0 (c : Str) : MS := fun g h => some (.ex ⟨.own c, none⟩ g h)
def sRaise (c f : Str) (As : Sg → M (List MV)) : MS := bs As fun xs g h => match xs with
  | [x] => some (.ex ⟨.own c, some (f, x)⟩ g h)
  | _ => none
theorem s_raise {a : Expr} {As : Sg → M (List MV)} {p pos pos2 : Pos} {k : Nat} (ek : X.K = K) (hc : X.calm = true) (tk : Takes X W) (T : EI K X.mg (He.ga K c) fI c f q bmB B newId initId) (hr : Room k X.A) (ha : PA X [a] (tMA K W As)) (hg : Gl X c := by rfl) (hdb : (c == ("__debug__" : Str)) = false := by decide)
    (he : starEach (a :: []) X.env = (false, eval a X.env) :: starEach [] X.env := by rfl) (hpl : (backTo pos (starEach [] X.env)).any (·.1) = false := by rfl) :
    PS X (.Raise (some (.Call (.Name c p) [a] [] pos)) none pos2) (tS K W (sRaise c f As)) := by
  subst ek
  refine psw (ps_raise hc tk (pmk_ei T hr ha hg hdb he hpl)) fun D σ H ⟨φ, g, h, r, hs, hg, e, pp⟩ => ?_
  refine bindS hs hg e pp fun xs h1 vs φ1 H1 f1 s1 g1 r1 e1 p1 => ?_
  split at e1
  · rename_i x
    cases e1
    obtain ⟨v, rest, rfl, rv, rr⟩ := rvs_invr r1
    obtain rfl := rvs_nilr rr
    refine ⟨v, rfl, fun d hd => ?_⟩
    have f2 : Fr φ1 φ1 H1 (upd H1 d (.xd [(f, v)])) := Fr.out hd
    exact p1 σ _ _ φ1 _ f2 (s1.out hd) (g1.mono s1.lv f2) ⟨rfl, ⟨d, v, rfl, upd_same, s1.rv f2 rv⟩⟩
  · cases e1
theorem s_raise0 {bm : List Value} {B nw ini : String} {m : Str} {j : Nat} {p p2 pos pos2 : Pos} (ek : X.K = K) (hc : X.calm = true) (tk : Takes X W) (F : ExcBaseFacts B nw ini bm) (gC : X.mg c = some (.ref (He.ga K c))) (ec : excIn K (He.ga K c) bm nw = true) (kC : keepIn K (.ref (He.ga K c)) = true)
    (h1 : subIn K (.ref (He.ga K c)) (.type "BaseException") = some true) (h2 : typeIn K (.ref (He.ga K c)) = some (.type "type")) (hg : Gl X c := by rfl) (hdb : (c == ("__debug__" : Str)) = false := by decide) :
    PS X (.Raise (some (.Call (.Name c p) [.Constant (.str m) j p2] [] pos)) none pos2) (tS K W (sRaise0 c)) := by
  subst ek
  refine psw (ps_raise hc tk (pmk_own F ec gC kC (raises_own h1 h2) hg hdb)) fun D σ H ⟨φ, g, h, r, hs, hg, e, pp⟩ => ?_
  cases e
  exact pp σ _ _ φ H (Fr.refl _ _) hs hg ⟨rfl, rfl⟩
end
/-! ### try .. except -/
def cutS (i : Nat) : SR → Option SR
  | .nx g h => some (.nx (g.set i none) h)
  | .rt v h => some (.rt v h)
  | .bk g h => some (.bk (g.set i none) h)
  | .ct g h => some (.ct (g.set i none) h)
  | .ex _ _ _ => none
def noEx : SR → Option SR
  | .ex _ _ _ => none
  | r => some r
def exF (e : Exn) (a : Addr) (d : Option Addr) : MV := match e.val with
  | some (f, x) => .exc a d f x
  | none => .exc a d Str.empty .non
/-- does the clause name it: c0 the class, ls classes that are others -/
def mtc (c0 : Str) (ls : List Str) : ECl → Option Bool
  | .own c => if c = c0 then some true else if c ∈ ls then some false else none
  | .blt _ => none
structure ExmL (K : Frag) (c0 : Str) (ls : List Str) : Prop where
  yes : exmOne K (.ref (He.ga K c0)) (.ref (He.ga K c0)) = some true
  no : ∀ c ∈ ls, exmOne K (.ref (He.ga K c)) (.ref (He.ga K c0)) = some false
def exmB (K : Frag) (c0 : Str) (ls : List Str) : Bool := decide (exmOne K (.ref (He.ga K c0)) (.ref (He.ga K c0)) = some true) && ls.all fun c => decide (exmOne K (.ref (He.ga K c)) (.ref (He.ga K c0)) = some false)
theorem exmL_ok {K : Frag} {c0 : Str} {ls : List Str} (h : exmB K c0 ls = true) : ExmL K c0 ls := by
  obtain ⟨a, b⟩ := He.ba h
  exact ⟨of_decide_eq_true a, fun c m => of_decide_eq_true (List.all_eq_true.mp b c m)⟩
/-- the field has a name -/
def okF (e : Exn) : Bool := match e.val with
  | some (f, _) => decide (f ≠ Str.empty)
  | none => true
def sTryAs (i : Nat) (c0 : Str) (ls : List Str) (B : MS) (S : Addr → Option Addr → MS) : MS := fun g h => match B g h with
  | some (.ex e g' h') => (match mtc c0 ls e.cl with
    | some true => if okF e then (S 0 none (g'.set i (some (exF e 0 none))) h').bind (cutS i) else none
    | some false => some (.ex e g' h')
    | none => none)
  | r => r
def sTryO (c0 : Str) (ls : List Str) (B S : MS) : MS := fun g h => match B g h with
  | some (.ex e g' h') => (match mtc c0 ls e.cl with
    | some true => (S g' h').bind noEx
    | some false => some (.ex e g' h')
    | none => none)
  | r => r
def IndS (i : Nat) (S : Addr → Option Addr → MS) : Prop := ∀ (a : Addr) (d : Option Addr) (f : Str) (x : MV) (g : Sg) (h : Mh), (f ≠ Str.empty ∨ d = none) → (S a d (g.set i (some (.exc a d f x))) h).bind (cutS i) = (S 0 none (g.set i (some (.exc 0 none f x))) h).bind (cutS i)
section
variable {X : Cx} {K : Frag} {W : WX} {x n c0 : Str} {ls : List Str} {i : Nat} {body suite : List Stmt} {b₀ : Stmt} {np pos pos' : Pos} {B : MS}
theorem pss_if {P : Prop} {b : List Stmt} {t : TS} (h : P → PSs X b t) : PSs X b (fun D σ H => P ∧ t D σ H) := ⟨fun pins s σ H D I ⟨p, q⟩ => (h p).run pins s σ H D I q⟩
def ClOf (K : Frag) (e : ECl) (C : Value) : Prop := match e with
    | .own c => C = .ref (He.ga K c)
    | .blt n => C = .type n
theorem mtc_ok (L : ExmL K c0 ls) {e : ECl} {b : Bool} {C : Value} (h : mtc c0 ls e = some b) (re : ClOf K e C) : exmOne K C (.ref (He.ga K c0)) = some b ∧ (b = true → C = .ref (He.ga K c0)) := by
  cases e with
  | blt n => cases h
  | own c =>
    have re : C = .ref (He.ga K c) := re
    subst re
    have h : (if c = c0 then some true else if c ∈ ls then some false else none) = some b := h
    by_cases hc : c = c0
    · rw [if_pos hc] at h
      cases h
      subst hc
      exact ⟨L.yes, fun _ => rfl⟩
    · rw [if_neg hc] at h
      by_cases hm : c ∈ ls
      · rw [if_pos hm] at h
        cases h
        exact ⟨L.no c hm, fun z => nomatch z⟩
      · rw [if_neg hm] at h
        cases h
theorem s_tryAs {S : Addr → Option Addr → MS} (ek : X.K = K) (L : ExmL K c0 ls) (hs : X.stack = X.env :: X.outer) (hf : X.env.frame = some X.env.locals) (hN : X.N.Nodup) (hi : X.N[i]? = some n) (hln : X.env.kindOf n = some .local) (hc : Names X x (.ref (He.ga K c0))) (tk : Takes X W) (ind : IndS i S)
    (hb : ∀ (W : WX) (pn : List (Addr × Obj)) (xe : Value → Shared → Prop), Takes (X.tr pn xe) W → PassesOwn (model X.prog X.w) X.A X.env xe → PSs (X.tr pn xe) body (tS K W B))
    (hsu : ∀ (a : Addr) (oe : Obj) (d : Option Addr) (pn : List (Addr × Obj)), Zc (.ref (He.ga K c0)) d oe → (∃ vs, oe.data = .fields vs) → PSs (X.suite a ((a, oe) :: pn)) (b₀ :: suite) (tS K WF (S a d))) :
    PS X (.Try body [.ExceptHandler (some (.Name x np)) (some n) (b₀ :: suite) pos'] [] [] pos) (tS K W (sTryAs i c0 ls B S)) := by
  subst ek
  refine psw (ps_try_as (tb := fun W => tS X.K W B) (ts := fun a cls d D σ H => cls = .ref (He.ga X.K c0) ∧ tS X.K WF (S a d) D σ H) hs hf hN hi hln hc tk hb fun a oe cls d pn hz hv => pss_if fun q => by subst q; exact hsu a oe d pn hz hv) fun D σ H ⟨φ, g, h, r, hs, hg, e, p⟩ => ?_
  unfold sTryAs at e
  cases q : B g h with
  | none => rw [q] at e; cases e
  | some r0 =>
    refine ⟨φ, g, h, r0, hs, hg, q, ?_⟩
    rw [q] at e
    cases r0 with
    | nx g' h' => cases e; exact p
    | rt v h' => cases e; exact p
    | bk g' h' => cases e; exact p
    | ct g' h' => cases e; exact p
    | ex ee g' h' =>
      intro σ' C d φ' H' f s' g1 re
      dsimp only at e
      cases qm : mtc c0 ls ee.cl with
      | none => rw [qm] at e; cases e
      | some b =>
        obtain ⟨m1, m2⟩ := mtc_ok L qm re.1
        refine ⟨b, m1, fun hb => ?_, fun hb => ?_⟩
        · subst hb
          rw [qm] at e
          dsimp only at e
          intro a ha
          refine ⟨m2 rfl, ?_⟩
          have rv : Rv X.K φ' H' (.ref a) (exF ee a d) := by
            unfold exF
            have z := re.2
            cases hv : ee.val with
            | none => unfold Rv; exact ⟨rfl, .inl rfl⟩
            | some fx =>
              obtain ⟨fl, y⟩ := fx
              rw [hv] at z
              obtain ⟨dx, u, z1, z2, z3⟩ := z
              unfold Rv
              exact ⟨rfl, .inr ⟨dx, u, z1, z2, z3⟩⟩
          have e0 := e
          have hok : okF ee = true := by
            cases q : okF ee with
            | true => rfl
            | false => rw [q, if_neg Bool.false_ne_true] at e0; cases e0
          rw [hok, if_pos rfl] at e
          have hcond : (match ee.val with | some (f, _) => f | none => Str.empty) ≠ Str.empty ∨ d = none := by
            have z := re.2
            unfold okF at hok
            cases hv : ee.val with
            | none => rw [hv] at z; exact .inr z
            | some fx =>
              rw [hv] at hok
              exact .inl (of_decide_eq_true hok)
          have e2 : (S a d (g'.set i (some (exF ee a d))) h').bind (cutS i) = some r := by
            have k : ∀ a d, exF ee a d = .exc a d (match ee.val with | some (f, _) => f | none => Str.empty) (match ee.val with | some (_, x) => x | none => .non) := fun a d => by
              unfold exF
              cases ee.val with
              | none => rfl
              | some fx => rfl
            rw [k] at e ⊢
            rw [ind a d _ _ _ _ hcond]
            exact e
          cases q1 : S a d (g'.set i (some (exF ee a d))) h' with
          | none => rw [q1] at e2; cases e2
          | some r1 =>
            rw [q1] at e2
            refine ⟨φ', _, h', r1, s', g1.set rv, q1, ?_⟩
            cases r1 with
            | nx g2 h2 => cases e2; exact fun σ2 φ2 H2 f2 s2 gg => p _ φ2 H2 (f.trans f2) s2 gg.clr
            | rt v h2 => cases e2; exact fun v φ2 H2 f2 s2 rr => p v φ2 H2 (f.trans f2) s2 rr
            | bk g2 h2 => cases e2; exact fun σ2 φ2 H2 f2 s2 gg => p _ φ2 H2 (f.trans f2) s2 gg.clr
            | ct g2 h2 => cases e2; exact fun σ2 φ2 H2 f2 s2 gg => p _ φ2 H2 (f.trans f2) s2 gg.clr
            | ex _ _ _ => cases e2
        · subst hb
          rw [qm] at e
          cases e
          exact p σ' C d φ' H' f s' g1 re
theorem s_tryO {S : MS} (ek : X.K = K) (L : ExmL K c0 ls) (hs : X.stack = X.env :: X.outer) (hf : X.env.frame = some X.env.locals) (hc : Names X x (.ref (He.ga K c0))) (tk : Takes X W)
    (hb : ∀ (W : WX) (pn : List (Addr × Obj)) (xe : Value → Shared → Prop), Takes (X.tr pn xe) W → PassesOwn (model X.prog X.w) X.A X.env xe → PSs (X.tr pn xe) body (tS K W B))
    (hsu : ∀ (a : Addr) (oe : Obj) (pn : List (Addr × Obj)), PSs (X.suite a ((a, oe) :: pn)) (b₀ :: suite) (tS K WF S)) :
    PS X (.Try body [.ExceptHandler (some (.Name x np)) none (b₀ :: suite) pos'] [] [] pos) (tS K W (sTryO c0 ls B S)) := by
  subst ek
  refine psw (ps_try_only (tb := fun W => tS X.K W B) (ts := fun a cls d => tS X.K WF S) hs hf hc tk hb fun a oe cls d pn hz hv => hsu a oe pn) fun D σ H ⟨φ, g, h, r, hs, hg, e, p⟩ => ?_
  unfold sTryO at e
  cases q : B g h with
  | none => rw [q] at e; cases e
  | some r0 =>
    refine ⟨φ, g, h, r0, hs, hg, q, ?_⟩
    rw [q] at e
    cases r0 with
    | nx g' h' => cases e; exact p
    | rt v h' => cases e; exact p
    | bk g' h' => cases e; exact p
    | ct g' h' => cases e; exact p
    | ex ee g' h' =>
      intro σ' C d φ' H' f s' g1 re
      dsimp only at e
      cases qm : mtc c0 ls ee.cl with
      | none => rw [qm] at e; cases e
      | some b =>
        obtain ⟨m1, m2⟩ := mtc_ok L qm re.1
        refine ⟨b, m1, fun hb => ?_, fun hb => ?_⟩
        · subst hb
          rw [qm] at e
          dsimp only at e
          intro a ha
          cases q1 : S g' h' with
          | none => rw [q1] at e; cases e
          | some r1 =>
            rw [q1] at e
            refine ⟨φ', _, h', r1, s', g1, q1, ?_⟩
            cases r1 with
            | nx g2 h2 => cases e; exact fun σ2 φ2 H2 f2 s2 gg => p _ φ2 H2 (f.trans f2) s2 gg
            | rt v h2 => cases e; exact fun v φ2 H2 f2 s2 rr => p v φ2 H2 (f.trans f2) s2 rr
            | bk g2 h2 => cases e; exact fun σ2 φ2 H2 f2 s2 gg => p _ φ2 H2 (f.trans f2) s2 gg
            | ct g2 h2 => cases e; exact fun σ2 φ2 H2 f2 s2 gg => p _ φ2 H2 (f.trans f2) s2 gg
            | ex _ _ _ => cases e
        · subst hb
          rw [qm] at e
          cases e
          exact p σ' C d φ' H' f s' g1 re
/-- e.f, e the exception that the suite holds -/
def xEx (a : Addr) (d : Option Addr) (i : Nat) (f : Str) : Sg → M MV := fun g h => match g[i]? with
  | some (some (.exc a' d' f' x)) => if a' = a ∧ d' = d ∧ f' = f ∧ f ≠ Str.empty then some (.ok x h) else none
  | _ => none
theorem m_exf {a fI : Addr} {oe : Obj} {d : Option Addr} {pn : List (Addr × Obj)} {y f c q : Str} {bmB : List Value} {Bn newId initId : String} {p' pos : Pos} (ek : X.K = K) (T : EI K X.mg (He.ga K c) fI c f q bmB Bn newId initId) (hz : Zc (.ref (He.ga K c)) d oe) (hf : ∃ vs, oe.data = .fields vs)
    (he : PE (X.suite a ((a, oe) :: pn)) (.Name y p') (tVar i)) (hb : attributeBase (.Name y p') f X.env (eval (.Name y p') X.env) = eval (.Name y p') X.env := by rfl) :
    PE (X.suite a ((a, oe) :: pn)) (.Attribute (.Name y p') f pos) (tM K W (xEx a d i f)) := by
  subst ek
  refine ⟨fun pins s σ H Q I ⟨φ, g, h, r, hs, hg, e, p⟩ => ?_⟩
  unfold xEx at e
  split at e
  · rename_i a' d' f' x hgi
    split at e
    · rename_i hh
      obtain ⟨rfl, rfl, rfl, hne⟩ := hh
      cases e
      obtain ⟨v, hv, rv⟩ := hg.get i _ hgi
      unfold Rv at rv
      obtain ⟨rfl, rv⟩ := rv
      rcases rv with rv | ⟨dd, u0, ed, ea, ru⟩
      · exact absurd rv hne
      · subst ed
        refine attr_of hb (thn (he.run pins s σ H (fun x H1 => x = .ref a' ∧ H1 = H) I ⟨_, hv, rfl, rfl⟩) fun u s1 hh => ?_)
        obtain ⟨x, H1, I1, rx, ex, eH⟩ := hh
        subst ex eH
        obtain rfl : u = Value.ref a' := rx
        obtain ⟨ha, _⟩ := I1.pin (a', oe) (List.mem_append_left _ List.mem_cons_self)
        obtain ⟨vs, hd⟩ := hf
        have hx : ObjOk X.prog X.w H1 s1.heap dd (.xd [(f', u0)]) := I1.hok dd _ ea
        obtain ⟨mA, hns, hr⟩ := hx
        obtain ⟨od, ho, hl⟩ := lookIn_ns hns
        have l : List.lookup f' [(f', u0)] = some u0 := by simp [List.lookup]
        obtain ⟨w, hw, rw_⟩ := RelO.some_of (v := u0) (o := mA f') (by rw [← l]; exact hr f')
        have J : PySem.W.InstAt s1.heap a' oe (He.ga X.K c) (some od) := ⟨ha, hz.1, by unfold PySem.W.notCls; rw [hd] <;> rfl, by rw [hz.2]; exact ho⟩
        exact HandSPX.exc_get I1.kIn J T.ga T.gg T.exC (PySem.W.findObj_own T.hdC T.noN rfl (by rw [hl, hw])) (handed_of rw_) ⟨u0, H1, I1.tok _, rw_, p u0 φ H1 (Fr.refl _ _) hs ru⟩
    · cases e
  · cases e
end
end Mi
/-! Mi: own exceptions by the head's facts, properties that read a field, calls with defaults and keywords -/
namespace Mi
open PySem PySem.Spec PyProof.Rows L2 Ob StX PySem.W
/-! ### own exceptions -/
section
variable {fa : List He.Fa} {fn : List He.DefD} {ts : List He.Tab} {ex : PySem.W.Frag → Bool} {w : World} {K : PySem.W.Frag} {mg : Str → Option Value}
theorem ei_ok (T : Tp fa fn ts ex w K mg) {c f p : Str} {bm : List Value} {B nw ini : String} (i : Nat) {d : He.DefD} (h : fn[i]? = some d) (hd : d.dfl = []) (hk : d.kwd = []) (ha : d.at_ = (c, some ("__init__" : Str))) (hn : d.name = "__init__")
    (hp : ∃ p1 p2, d.params = iA p p1 p2) (hb : ∃ q1 q2 q3 q4, d.body = iB f p q1 q2 q3 q4) (hs : d.scope = iS p) (hg : mg c = some (.ref (He.ga K c))) (hx : exiB K c f bm nw = true)
    (F : ExcBaseFacts B nw ini bm) (pass : ∀ self, refuseLoop self "__setattr__" bm = pure ()) (obj : bm.contains (.type "object") = true)
    (pn : (p == ("__debug__" : Str)) = false)
    (bd : ∀ (q : Str) (kV doc pm : Value) (an : Option Addr) (cdv ct x v : Value) (p1 p2 q1 q2 q3 q4 : Pos), bindArgs (fnOf "__init__" q (iA p p1 p2) (iB f p q1 q2 q3 q4) (iS p) .none kV doc pm an cdv ct) ⟨[x, v], []⟩ = pure [(("self" : Str), x), (p, v)])
    (kd : ∀ x v : Value, (([(("self" : Str), x), (p, v)] : List (Str × Value)).all fun y => (iS p).names.lookup y.1 == some .local || (iS p).names.lookup y.1 == some .cell) = true)
    (kp : ∀ (q : Str) (sz a : Addr) (cdv : Value), (envOfC q (iS p) sz a cdv).kindOf p = some .local ∧ (envOfC q (iS p) sz a cdv).kindOf "self" = some .local)
    (bl : ∀ (q : Str) (sz a : Addr) (cdv x v : Value), bindL (envOfC q (iS p) sz a cdv).kindOf [(("self" : Str), x), (p, v)] (fun _ => none) p = some v ∧ bindL (envOfC q (iS p) sz a cdv).kindOf [(("self" : Str), x), (p, v)] (fun _ => none) "self" = some x) :
    EI K mg (He.ga K c) (He.ma K (He.ga K c) "__init__") c f p bm B nw ini := by
  unfold exiB at hx
  obtain ⟨h1, hx⟩ := He.ba hx
  obtain ⟨h2, hx⟩ := He.ba hx
  obtain ⟨h3, hx⟩ := He.ba hx
  obtain ⟨h4, hx⟩ := He.ba hx
  obtain ⟨h5, hx⟩ := He.ba hx
  obtain ⟨h6, hx⟩ := He.ba hx
  obtain ⟨h7, hx⟩ := He.ba hx
  obtain ⟨h8, hx⟩ := He.ba hx
  obtain ⟨h9, hx⟩ := He.ba hx
  obtain ⟨h10, hx⟩ := He.ba hx
  obtain ⟨h11, h12⟩ := He.ba hx
  obtain ⟨fd, FD⟩ := T.c.def_ i h
  have e1 : d.dvs K = [] := by unfold He.DefD.dvs; rw [hd]; rfl
  have e2 : d.kws K = [] := by unfold He.DefD.kws; rw [hk]; rfl
  rw [e1, e2] at FD
  obtain ⟨oc, od, dV, kV, doc, pm, an, cdv, ct, osl, rfl, lk, hcd, hD, hK⟩ := FD.ex
  have ad : He.fAd K d.at_ = He.ma K (He.ga K c) "__init__" := by rw [ha]; rfl
  obtain ⟨p1, p2, hp⟩ := hp
  obtain ⟨q1, q2, q3, q4, hb⟩ := hb
  rw [ad, hn, hp, hb, hs] at lk
  rcases hD with ⟨_, rfl⟩ | ⟨e, _⟩
  · exact { F := F, pass := pass, obj := obj, gC := hg, ini := h1, ov := h2, hdC := h3, sa := He.eqO_ok h4, ga := He.eqO_ok h5, gg := He.eqO_ok h6, noN := He.eqO_ok h7, iC := He.eqO_ok h8, tC := of_decide_eq_true h9, kC := h10, exC := of_decide_eq_true h11, tyC := of_decide_eq_true h12, pn := pn,
            bd := fun q kV => bd q kV, kd := kd, kp := kp, bl := bl, fn := ⟨oc, od, _, kV, doc, pm, an, cdv, ct, osl, p1, p2, q1, q2, q3, q4, lk, hcd⟩ }
  · exact absurd rfl e
end
/-- an own exception class without __init__ -/
def excB (K : Frag) (c : Str) (bm : List Value) (nw : String) : Bool := excIn K (He.ga K c) bm nw && (keepIn K (.ref (He.ga K c)) && (decide (subIn K (.ref (He.ga K c)) (.type "BaseException") = some true) && decide (typeIn K (.ref (He.ga K c)) = some (.type "type"))))
section
variable {X : Cx} {K : Frag} {W : WX} {c m : Str}
theorem s_raiseB {bm : List Value} {B nw ini : String} {j : Nat} {p p2 pos pos2 : Pos} (ek : X.K = K) (hc : X.calm = true) (tk : Takes X W) (F : ExcBaseFacts B nw ini bm) (gC : X.mg c = some (.ref (He.ga K c))) (h : excB K c bm nw = true) (hg : Gl X c := by rfl) (hdb : (c == ("__debug__" : Str)) = false := by decide) :
    PS X (.Raise (some (.Call (.Name c p) [.Constant (.str m) j p2] [] pos)) none pos2) (tS K W (sRaise0 c)) := by
  obtain ⟨h1, h⟩ := He.ba h
  obtain ⟨h2, h⟩ := He.ba h
  obtain ⟨h3, h4⟩ := He.ba h
  exact s_raise0 ek hc tk F gC h1 h2 (of_decide_eq_true h3) (of_decide_eq_true h4) hg hdb
end
/-! ### properties that read a field -/
def gA (s0 : Str) (p0 : Pos) : Arguments := { posonlyargs := [], args := [{ arg := s0, annotation := none, pos := p0 }], vararg := none, kwonlyargs := [], kw_defaults := [], kwarg := none, defaults := [] }
def gS : Scope := { kind := .function, names := [(("self" : Str), .local)], isGenerator := false, isCoroutine := false, more := [] }
def getF (K : Frag) (g : Addr) (fld : Str) : Bool := match K.lookup g with
  | some ⟨_, _, .func ⟨_, qn, ⟨[], [⟨s0, none, _⟩], none, [], [], none, []⟩, .stmts [.Return (some (.Attribute (.Name s1 _) f2 _)) _], sc, gl, [], .none, _, _, _, _, cd, _, bt⟩, _⟩ =>
    decide (s0 = ("self" : Str)) && (decide (s1 = ("self" : Str)) && (decide (f2 = fld) && (decide (sc = gS) && (decide (gl = mainGlobals) && (decide (bt = builtinsNs) && codeIn K cd qn)))))
  | _ => false
theorem getF_ok {K : Frag} {g : Addr} {fld : Str} (h : getF K g fld = true) : ∃ (oc : Value) (od : Option Addr) (nm qn : Str) (kV doc pm : Value) (an : Option Addr) (cdv ct : Value) (osl : Array (Option Value)) (p0 p1 p2 p3 : Pos),
    K.lookup g = some ⟨oc, od, .func (fnOf nm qn (gA "self" p0) [.Return (some (.Attribute (.Name "self" p1) fld p2)) p3] gS .none kV doc pm an cdv ct), osl⟩ ∧ codeIn K cdv qn = true := by
  unfold getF at h
  split at h
  · rename_i q
    obtain ⟨h1, h⟩ := He.ba h
    obtain ⟨h2, h⟩ := He.ba h
    obtain ⟨h3, h⟩ := He.ba h
    obtain ⟨h4, h⟩ := He.ba h
    obtain ⟨h5, h⟩ := He.ba h
    obtain ⟨h6, h7⟩ := He.ba h
    have h1 := of_decide_eq_true h1
    have h2 := of_decide_eq_true h2
    have h3 := of_decide_eq_true h3
    have h4 := of_decide_eq_true h4
    have h5 := of_decide_eq_true h5
    have h6 := of_decide_eq_true h6
    subst h1 h2 h3 h4 h5 h6
    exact ⟨_, _, _, _, _, _, _, _, _, _, _, _, _, _, _, q, h7⟩
  · cases h
/-- f, of the class c, is a property that reads fld -/
def getB (K : Frag) (c f fld : Str) : Bool := match findIn K (.ref (He.ga K c)) f with
  | some (some (.ref p)) => He.eqO (specialIn K (.ref p) "__get__") (some (some (.builtin "property.__get__"))) && (decide (takesIn K (.ref p) = some true) && (match recIn K p "property" with
    | some (.ref g :: _) => getF K g fld
    | _ => false))
  | _ => false
theorem getB_ok {K : Frag} {c f fld : Str} (h : getB K c f fld = true) : ∃ p g, PropOf K (He.ga K c) f p g ∧ getF K g fld = true := by
  unfold getB at h
  split at h
  · rename_i p q
    obtain ⟨h1, h⟩ := He.ba h
    obtain ⟨h2, h3⟩ := He.ba h
    split at h3
    · rename_i g rest e
      exact ⟨p, g, ⟨q, He.eqO_ok h1, of_decide_eq_true h2, rest, e⟩, h3⟩
    · cases h3
  · cases h
theorem sc_get : FnScope ["self"] ["self"] gS := ⟨rfl, rfl, rfl, by decide +kernel, rfl, by decide +kernel, by decide +kernel⟩
section
variable {X : Cx} {K : Frag} {W : WX} {A : Sg → M MV} {o : Expr} {pos : Pos}
theorem m_prp {c f fld : Str} (ek : X.K = K) (hr : Room 2 X.A) (cl : Cls K (He.ga K c)) (na : NoAttr K (He.ga K c) fld) (gb : getB K c f fld = true) (ha : PE X o (tM K W A)) (hb : attributeBase o f X.env (eval o X.env) = eval o X.env) : PE X (.Attribute o f pos) (tM K W (x1 (mFld [c] fld) A)) := by
  subst ek
  obtain ⟨p, g, hp, hgf⟩ := getB_ok gb
  obtain ⟨oc, od, nm, qn, kV, doc, pm, an, cdv, ct, osl, p0, p1, p2, p3, lk, hcd⟩ := getF_ok hgf
  have F := fn_getter (CX := CX0) (P := X.prog) (w := X.w) (mg := X.mg) (base := X.base) (k := 0) lk hcd sc_get rfl rfl cl na
  have B : Binds X.K (fnOf nm qn (gA "self" p0) [.Return (some (.Attribute (.Name "self" p1) fld p2)) p3] gS .none kV doc pm an cdv ct) ["self"] [] := .all fun us hl => match us, hl with | [_], _ => rfl
  exact pew (pe_prop ha cl hp F hr B .nil (fun _ _ _ _ _ _ _ h => h.elim) (E := E0) hb) fun σ H Q ⟨φ, g, h, R, hs, hg, e, p⟩ => bindG hs hg e p rfl fun x h1 v φ1 H1 f1 s1 g1 r1 e1 p1 => by
    unfold mFld at e1
    split at e1
    · rename_i c' gs q
      split at e1
      · rename_i hc
        obtain rfl := List.mem_singleton.mp hc
        obtain ⟨b, dx, fs, rfl, e2, e3, e4⟩ := insAt_ok s1 r1 q
        obtain ⟨y, q2, e1⟩ := Option.map_eq_some_iff.mp e1
        subst e1
        obtain ⟨u, l1, l2⟩ := lookup_some e3 e4 q2
        exact ⟨b, dx, fs, rfl, e2, b, dx, fs, u, rfl, e2, l1, end_pu s1 l2 p1⟩
      · cases e1
    · cases e1
end
/-! ### defs with defaults; keywords -/
/-- a def, whatever its defaults -/
def FnD (P : Program) (w : World) (K : Frag) (mg : Str → Option Value) (base : Heap) (d : He.DefD) (k : Nat) (ps : List Str) (F : List MV → M MV) : Prop :=
  ∃ fd, FunD K d.name d.qual d.params d.body d.scope (d.dvs K) (d.kws K) (He.fAd K d.at_) fd ∧ FnOk P w K mg base (L2.CX P w) k (He.fAd K d.at_) fd ps (spM K F)
section
variable {fa : List He.Fa} {fn : List He.DefD} {ts : List He.Tab} {ex : PySem.W.Frag → Bool} {w : World} {K : PySem.W.Frag} {mg : Str → Option Value} {P : Program} {base : Heap} {k : Nat}
theorem okMA (T : Tp fa fn ts ex w K mg) (i : Nat) {d : He.DefD} {N ps : List Str} {B : MS} (h : fn[i]? = some d) (S : FnScope N ps d.scope)
    (hbody : ∀ (cdv : Value) (A : Around) (outer : List Env) (s : Shared) (H : Hp) (E : XK), Room k (A.deeper (envOfC d.qual d.scope s.heap.objs.size (He.fAd K d.at_) cdv)) →
      Takes (cxOf (L2.CX P w) P w K mg base N d.qual d.scope (He.fAd K d.at_) cdv A outer s H E) (fun c d _ H => E c d H) → PassesOwn (model P w) (A.deeper (envOfC d.qual d.scope s.heap.objs.size (He.fAd K d.at_) cdv)) (envOfC d.qual d.scope s.heap.objs.size (He.fAd K d.at_) cdv) (cxOf (L2.CX P w) P w K mg base N d.qual d.scope (He.fAd K d.at_) cdv A outer s H E).xe →
      PSs (cxOf (L2.CX P w) P w K mg base N d.qual d.scope (He.fAd K d.at_) cdv A outer s H E) d.body (tS K (fun c d _ H => E c d H) B)) :
    FnD P w K mg base d (k + 1) ps (fnM ps.length N.length B) := by
  obtain ⟨fd, F⟩ := T.c.def_ i h
  exact ⟨fd, F, F.ok (CX := L2.CX P w) (P := P) (w := w) (mg := mg) (base := base) S (fun vs H Q E q => fn_len q) fun cdv A outer s H vs Q E hr q => ⟨_, hbody cdv A outer s H E hr (takes_of rfl rfl rfl rfl) (passes_of rfl), fn_read q⟩⟩
theorem spM_app {F : List MV → M MV} {n : Nat} {dvs : List V} {ms : List MV} (hm : ∀ φ H, Rvs K φ H dvs ms) {vs : List V} {H : Hp} {Q : VK} {E : XK} (h : spM K (fun xs => if xs.length = n then F (xs ++ ms) else fun _ => none) vs H Q E) : spM K F (vs ++ dvs) H Q E := by
  obtain ⟨φ, h, xs, r, s, rx, e, p⟩ := h
  dsimp only at e
  split at e
  · exact ⟨φ, h, xs ++ ms, r, s, rx.app (hm φ H), e, p⟩
  · cases e
/-- called by position, all parameters written -/
theorem FnD.pos {d : He.DefD} {ps : List Str} {F : List MV → M MV} (D : FnD P w K mg base d k ps F) (hd : d.dfl = []) (hk : d.kwd = [])
    (hb : ∀ (kV doc pm : Value) (an : Option Addr) (cdv ct : Value) (us : List Value), us.length = ps.length → bindArgs (PySem.W.fnOf d.name d.qual d.params d.body d.scope .none kV doc pm an cdv ct) ⟨us, []⟩ = pure (ps.zip us)) : FnM P w K mg base k (He.fAd K d.at_) F := by
  obtain ⟨fd, D, O⟩ := D
  have e1 : d.dvs K = [] := by unfold He.DefD.dvs; rw [hd]; rfl
  have e2 : d.kws K = [] := by unfold He.DefD.kws; rw [hk]; rfl
  rw [e1, e2] at D
  exact (O.raw (D.bindsN hb) .nil).imp fun vs H Q E z => by rw [List.append_nil]; exact z
/-- .. the first n written, defaults only behind the star -/
theorem FnD.pos0 {d : He.DefD} {ps : List Str} {F : List MV → M MV} (D : FnD P w K mg base d k ps F) (n : Nat) (ms : List MV) (hd : d.dfl = []) (hk : d.kwd ≠ []) (hn : n + d.kwd.length = ps.length) (hm : ∀ φ H, Rvs K φ H ((d.kws K).map (·.2)) ms)
    (hb : ∀ (D : Addr) (doc pm : Value) (an : Option Addr) (cdv ct : Value) (us ks : List Value), us.length = n → ks.length = d.kwd.length →
      KwChain D ((d.kwd.map (·.1)).zip ks) (bindArgs (PySem.W.fnOf d.name d.qual d.params d.body d.scope .none (.ref D) doc pm an cdv ct) ⟨us, []⟩) (ps.zip (us ++ ks))) :
    FnM P w K mg base k (He.fAd K d.at_) (fun xs => if xs.length = n then F (xs ++ ms) else fun _ => none) := by
  obtain ⟨fd, D, O⟩ := D
  have e1 : d.dvs K = [] := by unfold He.DefD.dvs; rw [hd]; rfl
  rw [e1] at D
  have e2 : (d.kws K).length = d.kwd.length := by unfold He.DefD.kws; simp
  have e3 : (d.kws K).map (·.1) = d.kwd.map (·.1) := by unfold He.DefD.kws; rw [List.map_map]; rfl
  obtain ⟨ds, r, b⟩ := D.binds0 (ps := ps) n (fun z => hk (by rw [z] at e2; exact List.length_eq_zero_iff.mp e2.symm)) (by rw [e2]; exact hn) fun D doc pm an cdv ct us ks l1 l2 => by rw [e3]; exact hb D doc pm an cdv ct us ks l1 (by rw [l2, e2])
  exact (O.raw b r).imp fun vs H Q E z => spM_app hm z
/-- .. j of the defaults are written -/
theorem FnD.pos1 {d : He.DefD} {ps : List Str} {F : List MV → M MV} (D : FnD P w K mg base d k ps F) (n j : Nat) (ms : List MV) (hk : d.kwd = []) (hd : d.dfl ≠ []) (hn : n + (d.dfl.length - j) = ps.length) (hm : ∀ φ H, Rvs K φ H ((d.dvs K).drop j) ms)
    (hb : ∀ (T : Addr) (kV doc pm : Value) (an : Option Addr) (cdv ct : Value) (us its : List Value), us.length = n → its.length = d.dfl.length →
      ∃ k, bindArgs (PySem.W.fnOf d.name d.qual d.params d.body d.scope (.ref T) kV doc pm an cdv ct) ⟨us, []⟩ = seqItems? (.ref T) >>= k ∧ k (some its.toArray) = pure (ps.zip (us ++ its.drop j))) :
    FnM P w K mg base k (He.fAd K d.at_) (fun xs => if xs.length = n then F (xs ++ ms) else fun _ => none) := by
  obtain ⟨fd, D, O⟩ := D
  have e2 : (d.dvs K).length = d.dfl.length := by unfold He.DefD.dvs; simp
  obtain ⟨ds, r, b⟩ := D.binds1 (ps := ps) n j (fun z => hd (by rw [z] at e2; exact List.length_eq_zero_iff.mp e2.symm)) (by rw [e2]; exact hn) fun T kV doc pm an cdv ct us its l1 l2 => hb T kV doc pm an cdv ct us its l1 (by rw [l2, e2])
  exact (O.raw b r).imp fun vs H Q E z => spM_app hm z
end
/-- f(.., k = v, ..): gM puts the values in the parameters' order -/
def xCallK (F : List MV → M MV) (gM : List MV → List MV → List MV) (n m : Nat) (As Ks : Sg → M (List MV)) : Sg → M MV := fun g => bd (As g) fun xs => bd (Ks g) fun ys => if xs.length = n ∧ ys.length = m then F (gM xs ys) else fun _ => none
/-- from several lists, by number and place -/
def pickL {α : Type} (ls : List (List α)) (sel : List (Nat × Nat)) : List α := sel.filterMap fun q => (ls.getD q.1 [])[q.2]?
theorem vals_get {vs : List V} {us : List Value} (r : Vals vs us) (i : Nat) : (vs[i]? = none ∧ us[i]? = none) ∨ ∃ v u, vs[i]? = some v ∧ us[i]? = some u ∧ RelV v u := by
  induction r generalizing i with
  | nil => exact .inl ⟨by simp, by simp⟩
  | cons a b ih =>
    cases i with
    | zero => exact .inr ⟨_, _, rfl, rfl, a⟩
    | succ i => simpa using ih i
inductive VL : List (List V) → List (List Value) → Prop
  | nil : VL [] []
  | cons {a b as bs} : Vals a b → VL as bs → VL (a :: as) (b :: bs)
theorem VL.getD {ls : List (List V)} {ms : List (List Value)} (h : VL ls ms) (j : Nat) : Vals (ls.getD j []) (ms.getD j []) := by
  induction h generalizing j with
  | nil => simpa using Paired.nil
  | cons a b ih =>
    cases j with
    | zero => simpa using a
    | succ j => simpa using ih j
theorem vals_pick {ls : List (List V)} {ms : List (List Value)} (h : VL ls ms) : ∀ sel, Vals (pickL ls sel) (pickL ms sel)
  | [] => .nil
  | q :: r => by
    have ih := vals_pick h r
    unfold pickL at ih ⊢
    rw [List.filterMap_cons, List.filterMap_cons]
    rcases vals_get (h.getD q.1) q.2 with ⟨e1, e2⟩ | ⟨v, u, e1, e2, rr⟩
    · rw [e1, e2]; exact ih
    · rw [e1, e2]; exact .cons rr ih
inductive RL (K : Frag) (φ : Ph) (H : Hp) : List (List V) → List (List MV) → Prop
  | nil : RL K φ H [] []
  | cons {a b as bs} : Rvs K φ H a b → RL K φ H as bs → RL K φ H (a :: as) (b :: bs)
theorem RL.getD {K : Frag} {φ : Ph} {H : Hp} {ls : List (List V)} {ms : List (List MV)} (h : RL K φ H ls ms) (j : Nat) : Rvs K φ H (ls.getD j []) (ms.getD j []) := by
  induction h generalizing j with
  | nil => simpa using rvs_nil
  | cons a b ih =>
    cases j with
    | zero => simpa using a
    | succ j => simpa using ih j
theorem rvs_pick {K : Frag} {φ : Ph} {H : Hp} {ls : List (List V)} {ms : List (List MV)} (h : RL K φ H ls ms) : ∀ sel, Rvs K φ H (pickL ls sel) (pickL ms sel)
  | [] => rvs_nil
  | q :: r => by
    have ih := rvs_pick h r
    have g := h.getD q.1
    unfold pickL at ih ⊢
    rw [List.filterMap_cons, List.filterMap_cons]
    cases e : (ms.getD q.1 [])[q.2]? with
    | none =>
      have e2 : (ls.getD q.1 [])[q.2]? = none := by
        rw [List.getElem?_eq_none_iff] at e ⊢
        rw [g.length]; exact e
      rw [e2]; exact ih
    | some x =>
      obtain ⟨v, e2, rv⟩ := g.get e
      rw [e2]; exact rvs_cons rv ih
section
variable {K : Frag} {d : He.DefD} {ps ks : List Str} {n : Nat} {fd : FuncData}
/-- no defaults -/
theorem kbN (sel : List (Nat × Nat)) (D : FunD K d.name d.qual d.params d.body d.scope (d.dvs K) (d.kws K) (He.fAd K d.at_) fd) (hd : d.dfl = [])
    (h : ∀ (kV doc pm : Value) (an : Option Addr) (cdv ct : Value) (us ws : List Value), us.length = n → ws.length = ks.length → bindArgs (PySem.W.fnOf d.name d.qual d.params d.body d.scope .none kV doc pm an cdv ct) ⟨us, ks.zip ws⟩ = pure (ps.zip (pickL [us, [], ws] sel))) :
    ∃ g, KBn K fd ps n ks g (fun vs zs => pickL [vs, [], zs] sel) := by
  have e1 : d.dvs K = [] := by unfold He.DefD.dvs; rw [hd]; rfl
  rw [e1] at D
  obtain ⟨oc, od, dV, kV, doc, pm, an, cdv, ct, osl, rfl, lk, hcd, hD, hK⟩ := D.ex
  rcases hD with ⟨_, rfl⟩ | ⟨e, _⟩
  · exact ⟨fun us ws => pickL [us, [], ws] sel, ⟨fun s us ws X l1 l2 => .of_eq (h kV doc pm an cdv ct us ws l1 l2), fun r1 r2 => vals_pick (.cons r1 (.cons .nil (.cons r2 .nil))) sel⟩⟩
  · exact absurd rfl e
/-- defaults only behind the star; dm: those that lack -/
theorem kb0 (sel : List (Nat × Nat)) (dm : List (Str × He.Dv)) (D : FunD K d.name d.qual d.params d.body d.scope (d.dvs K) (d.kws K) (He.fAd K d.at_) fd) (hd : d.dfl = []) (hk : d.kwd ≠ []) (hm : ∀ q ∈ dm, q ∈ d.kwd)
    (h : ∀ (D : Addr) (doc pm : Value) (an : Option Addr) (cdv ct : Value) (us mv ws : List Value), us.length = n → mv.length = dm.length → ws.length = ks.length →
      KwChain D ((dm.map (·.1)).zip mv) (bindArgs (PySem.W.fnOf d.name d.qual d.params d.body d.scope .none (.ref D) doc pm an cdv ct) ⟨us, ks.zip ws⟩) (ps.zip (pickL [us, mv, ws] sel))) :
    ∃ g, KBn K fd ps n ks g (fun vs zs => pickL [vs, dm.map (fun q => q.2.v K), zs] sel) := by
  have e1 : d.dvs K = [] := by unfold He.DefD.dvs; rw [hd]; rfl
  rw [e1] at D
  have e3 : (dm.map fun q => (q.1, q.2.v K)).map (·.1) = dm.map (·.1) := by rw [List.map_map]; rfl
  have e4 : (dm.map fun q => (q.1, q.2.v K)).map (·.2) = dm.map (fun q => q.2.v K) := by rw [List.map_map]; rfl
  obtain ⟨mv, b⟩ := D.kbinds0 (ps := ps) n ks (dm.map fun q => (q.1, q.2.v K)) (fun us mv ws => pickL [us, mv, ws] sel) (fun z => hk (by unfold He.DefD.kws at z; exact List.map_eq_nil_iff.mp z)) (fun q hq => by
      obtain ⟨y, hy, rfl⟩ := List.mem_map.mp hq
      exact List.mem_map_of_mem (hm y hy)) (fun r1 r2 r3 => vals_pick (.cons r1 (.cons r2 (.cons r3 .nil))) sel) fun D doc pm an cdv ct us mv ws l1 l2 l3 => by rw [e3]; exact h D doc pm an cdv ct us mv ws l1 (by rw [l2, List.length_map]) l3
  rw [e4] at b
  exact ⟨_, b⟩
end
section
variable {X : Cx} {K : Frag} {W : WX} {k n : Nat} {d : He.DefD} {ps ks : List Str} {F : List MV → M MV} {gM : List MV → List MV → List MV} {gV : List V → List V → List V} {x : Str} {p pos : Pos} {e : Expr} {es : List Expr} {kws : List Keyword} {A : Sg → M MV} {As Ks : Sg → M (List MV)}
theorem m_kwn : PK X [] (tMA K W xNil) := ⟨fun _ pins s σ H Q I ⟨φ, g, h, R, hs, hg, e, p⟩ => by
  cases e
  exact wpAny_evalAll_nil ⟨[], H, I, .nil, p [] φ H (Fr.refl _ _) hs rvs_nil⟩⟩
theorem m_kwc {nm : Option Str} {kpos : Pos} (ha : PE X e (tM K W A)) (hr : PK X kws (tMA K W As)) : PK X (⟨nm, e, kpos⟩ :: kws) (tMA K W (xCons A As)) := ⟨fun pos pins s σ H Q I ⟨φ, g, h, R, hs, hg, e, p⟩ => (pk_cons ha hr).run pos pins s σ H Q I
  (bindG hs hg e p rfl fun x h1 v φ1 H1 f1 s1 g1 r1 e1 p1 => bindG s1 g1 e1 p1 rfl fun y h2 w φ2 H2 f2 s2 g2 r2 e2 p2 => by
    cases e2
    exact p2 _ φ2 H2 (Fr.refl _ _) s2 (rvs_cons (s1.rv f2 r1) r2))⟩
theorem run_callK {pins : List (Addr × Obj)} {σ : L2.St} {φ : Ph} {h : Mh} {H : Hp} {s : Shared} {Q : VK} {us ws : List Value} {vs zs : List V} {xs ys : List MV} {R : Rs MV} {f : Addr} {fd : FuncData} {g : List Value → List Value → List Value} (O : FnOk X.prog X.w X.K X.mg X.base (L2.CX X.prog X.w) k f fd ps (spM X.K F)) (hr : Room k X.A) (b : KBn X.K fd ps n ks g gV) (tk : Takes X W) (I : Inv X pins σ H s)
    (r : Vals vs us) (rz : Vals zs ws) (hs : Sim X.K φ h H) (rx : Rvs X.K φ H vs xs) (ry : Rvs X.K φ H zs ys) (hg : ∀ φ H vs xs zs ys, Rvs X.K φ H vs xs → Rvs X.K φ H zs ys → Rvs X.K φ H (gV vs zs) (gM xs ys))
    (e : (if xs.length = n ∧ ys.length = ks.length then F (gM xs ys) else fun _ => none) h = some R) (p : Pg (Rv X.K) X.K W σ φ H Q R) : wpAny (model X.prog X.w) X.A (call (.ref f) us (ks.zip ws)) (EP X pins σ Q) X.xe s := by
  split at e
  · rename_i hl
    have l1 : us.length = n := by rw [← r.length, rx.length]; exact hl.1
    have l2 : ws.length = ks.length := by rw [← rz.length, ry.length]; exact hl.2
    refine wpAny_call (codeAny_mono (O.run X.A X.stack s H ⟨us, ks.zip ws⟩ (g us ws) (gV vs zs) Q (fun c d H => W c d σ H) hr I.env0 (b.to s us ws I.kIn l1 l2) (b.rel r rz) ⟨φ, h, gM xs ys, R, hs, hg _ _ _ _ _ _ rx ry, e, pg_call p⟩) fun r s' hq => ?_)
    cases r with
    | error e => exact tk e s' (XE.of_call I (fun cls d H' h => h) hq)
    | ok fl =>
      cases fl with
      | ret u => exact I.after hq
      | next => exact False.elim hq
      | brk => exact False.elim hq
      | cont => exact False.elim hq
  · cases e
theorem m_callK (ek : X.K = K) (D : FnD X.prog X.w K X.mg X.base d k ps F) (ea : He.fAd K d.at_ = He.ga K x) (hb : ∀ fd, FunD K d.name d.qual d.params d.body d.scope (d.dvs K) (d.kws K) (He.fAd K d.at_) fd → ∃ g, KBn K fd ps n ks g gV)
    (hgm : ∀ φ H vs xs zs ys, Rvs K φ H vs xs → Rvs K φ H zs ys → Rvs K φ H (gV vs zs) (gM xs ys)) (hr : Room k X.A) (hm : X.mg x = some (.ref (He.ga K x))) (hk : PySem.W.keepIn K (.ref (He.ga K x)) = true) (tk : Takes X W)
    (ha : PA X (e :: es) (tMA K W As)) (hkw : PK X kws (tMA K W Ks)) (hg : Gl X x := by rfl) (hall : (backToKw pos (keywordEach kws X.env)).all (·.1.isSome) = true := by rfl) (hks : (backToKw pos (keywordEach kws X.env)).filterMap (·.1) = ks := by rfl)
    (hdb : (x == ("__debug__" : Str)) = false := by decide) (he : starEach (e :: es) X.env = (false, eval e X.env) :: starEach es X.env := by rfl)
    (hpl : ((backTo pos (starEach (e :: es) X.env)).any (·.1) || (backToKw pos (keywordEach kws X.env)).any (·.1.isNone)) = false := by rfl) :
    PE X (.Call (.Name x p) (e :: es) kws pos) (tM K W (xCallK F gM n ks.length As Ks)) := by
  subst ek
  obtain ⟨fd, D, O⟩ := D
  obtain ⟨g, b⟩ := hb fd D
  rw [ea] at O
  refine ⟨fun pins s σ H Q I ⟨φ, g, h, R, hs, hgg, e, pp⟩ => ?_⟩
  refine wpAny_Call_Name_kw (ld_glob I hg hm ?_ hdb)
  refine PySem.W.callWith_KW (h₀ := X.base) I.ok.mod.kin hk hall (thn (ha.run pos pins s σ H (fun vs H1 => tMA X.K W Ks σ H1 fun zs H2 => ∃ φ2 h2 xs ys, Sim X.K φ2 h2 H2 ∧ Rvs X.K φ2 H2 vs xs ∧ Rvs X.K φ2 H2 zs ys ∧ (if xs.length = n ∧ ys.length = ks.length then F (gM xs ys) else fun _ => none) h2 = some R ∧ Pg (Rv X.K) X.K W σ φ2 H2 Q R) I
    (bindG hs hgg e pp rfl fun xs h1 vs φ1 H1 f1 s1 g1 r1 e1 p1 => bindG s1 g1 e1 p1 rfl fun ys h2 zs φ2 H2 f2 s2 g2 r2 e2 p2 => ⟨φ2, h2, xs, ys, s2, s1.rvs f2 r1, r2, e2, p2⟩)) fun us s1 ⟨vs, H1, I1, r, q⟩ => ?_) hpl he
  refine thn (hkw.run pos pins s1 σ H1 _ I1 q) fun ws s2 ⟨zs, H2, I2, rz, φ2, h2, xs, ys, s2', rx, ry, e2, p2⟩ => ⟨I2.kIn, ?_⟩
  rw [hks]
  exact run_callK O hr b tk I2 r rz s2' rx ry hgm e2 p2
theorem m_callK0 (ek : X.K = K) (D : FnD X.prog X.w K X.mg X.base d k ps F) (ea : He.fAd K d.at_ = He.ga K x) (hb : ∀ fd, FunD K d.name d.qual d.params d.body d.scope (d.dvs K) (d.kws K) (He.fAd K d.at_) fd → ∃ g, KBn K fd ps 0 ks g gV)
    (hgm : ∀ φ H vs xs zs ys, Rvs K φ H vs xs → Rvs K φ H zs ys → Rvs K φ H (gV vs zs) (gM xs ys)) (hr : Room k X.A) (hm : X.mg x = some (.ref (He.ga K x))) (hk : PySem.W.keepIn K (.ref (He.ga K x)) = true) (tk : Takes X W)
    (hkw : PK X kws (tMA K W Ks)) (hg : Gl X x := by rfl) (hall : (backToKw pos (keywordEach kws X.env)).all (·.1.isSome) = true := by rfl) (hks : (backToKw pos (keywordEach kws X.env)).filterMap (·.1) = ks := by rfl)
    (hdb : (x == ("__debug__" : Str)) = false := by decide)
    (hpl : ((backTo pos (starEach [] X.env)).any (·.1) || (backToKw pos (keywordEach kws X.env)).any (·.1.isNone)) = false := by rfl) :
    PE X (.Call (.Name x p) [] kws pos) (tM K W (xCallK F gM 0 ks.length xNil Ks)) := by
  subst ek
  obtain ⟨fd, D, O⟩ := D
  obtain ⟨g, b⟩ := hb fd D
  rw [ea] at O
  refine ⟨fun pins s σ H Q I ⟨φ, g, h, R, hs, hgg, e, pp⟩ => ?_⟩
  refine wpAny_Call_Name_kw (ld_glob I hg hm ?_ hdb)
  refine PySem.W.callWith_KW0 (h₀ := X.base) I.ok.mod.kin hk hall (thn (hkw.run pos pins s σ H (fun zs H2 => ∃ φ2 h2 ys, Sim X.K φ2 h2 H2 ∧ Rvs X.K φ2 H2 zs ys ∧ (if ([] : List MV).length = 0 ∧ ys.length = ks.length then F (gM [] ys) else fun _ => none) h2 = some R ∧ Pg (Rv X.K) X.K W σ φ2 H2 Q R) I
    (bindG hs hgg (show bd (Ks g) (fun ys => if ([] : List MV).length = 0 ∧ ys.length = ks.length then F (gM [] ys) else fun _ => none) h = some R from e) pp rfl fun ys h2 zs φ2 H2 f2 s2 g2 r2 e2 p2 => ⟨φ2, h2, ys, s2, r2, e2, p2⟩)) fun ws s2 ⟨zs, H2, I2, rz, φ2, h2, ys, s2', ry, e2, p2⟩ => ⟨I2.kIn, ?_⟩) hpl
  rw [hks]
  exact run_callK (us := []) (vs := []) (xs := []) O hr b tk I2 .nil rz s2' rvs_nil ry hgm e2 p2
end
end Mi
/-! Mi: list.extend of a text -/
namespace Mi
open PySem PySem.Spec PyProof.Rows L2 Ob StX
section
variable {prog : Program} {w : World} {A : Around} {R : Result → Shared → Prop} {I : Addr} {fp wr : List Addr} {G : Array GenState → Array GenState → Prop} {n : Nat} {P : Nat → Value → Prop} {St : Nat → Shared → Prop}
theorem ext_loop (W : WalksS prog w A.in1 I fp wr G n P St) (S : Addr) (hSf : S ∉ fp) (res : Value) (pre : Array Value) (hn : pre.size + n ≤ sizeLine) :
    ∀ (k i : Nat) (s : Shared) (acc : Array Value) (c : Nat), n - i = k → i ≤ n → St i s → s.heap.get? S = some { cls := .type "list", dict := none, data := .seq (pre ++ acc) c, slots := #[] } → ItemsOf P acc i →
    (∀ s' acc' c', Moved (S :: wr) G s s' → s'.heap.get? S = some { cls := .type "list", dict := none, data := .seq (pre ++ acc') c', slots := #[] } → ItemsOf P acc' n → R (.ok (.ret res)) s') →
    codeAny (model prog w) A (.builtin "list.extend.loop" ⟨[.ref S, .ref I, res], []⟩) R s := by
  have hSw : S ∉ wr := fun h => hSf (W.sub _ h)
  have hsub : ∀ b ∈ wr, b ∈ S :: wr := fun b hb => List.mem_cons_of_mem _ hb
  intro k
  induction k with
  | zero =>
    intro i s acc c hk hi hst hS hacc hR
    have hin : i = n := by omega
    subst hin
    refine codeAny_builtin F.entry_extend_loop ?_
    rw [Around.under_plainId F.plain_extend_loop _]
    show wpAny _ A.in1 (pyNext (.ref I) >>= _) _ _ s
    refine wpAny_bind (W.done s _ _ hst fun s' hm => ?_)
    exact wpAny_pure (hR s' acc c (hm.mono hsub) (hm.heap S _ hSw hS) hacc)
  | succ k ih =>
    intro i s acc c hk hi hst hS hacc hR
    have hlt : i < n := by omega
    refine codeAny_builtin F.entry_extend_loop ?_
    rw [Around.under_plainId F.plain_extend_loop _]
    show wpAny _ A.in1 (pyNext (.ref I) >>= _) _ _ s
    refine wpAny_bind (W.item i s _ _ hlt hst fun v s' hP hst' hm => ?_)
    have hS' := hm.heap S _ hSw hS
    show wpAny _ A.in1 (updateSeq S (·.push v) >>= _) _ _ _
    refine wpAny_bind ?_
    have ep : (pre ++ acc).push v = pre ++ acc.push v := Array.push_append
    refine wpAny_updateSeq hS' rfl (wpAny_pure ⟨plainId_quiet F.plain_extend_loop _, ih (i + 1) _ (acc.push v) _ (by omega) hlt (W.frame _ s' _ s'.toks hst' (Nat.le_refl _) fun b hb o e => ?_) (by rw [← ep]; exact Heap.get?_update_self _ hS' rfl) (hacc.push hP) fun s'' acc' c' hm'' hS'' hacc' => ?_⟩)
      (by rw [Array.size_append, hacc.1]; omega) (by show ((pre ++ acc).push v).size ≤ sizeLine + 1; rw [Array.size_push, Array.size_append, hacc.1]; omega)
    · exact (Heap.get?_update_other _ _ (fun h : S = b => hSf (by rw [h]; exact hb))).trans e
    · refine hR s'' acc' c' (Moved.trans W.gtrans ((hm.mono hsub).then_heap (by first | exact Nat.le_refl _ | exact Nat.le_succ _ | omega) fun b o hb e => ?_) hm'') hS'' hacc'
      exact (Heap.get?_update_other _ _ (fun h : S = b => hb (by rw [h]; exact List.mem_cons_self ..))).trans e
end
section
variable {prog : Program} {w : World} {A : Around} {E : Value → Shared → Prop} {s : Shared}
theorem ext_str {R : Result → Shared → Prop} (hh : A.handled = none) (x : Str) (t : Tok) (S : Addr) (res : Value) (pre : Array Value) (c₀ : Nat) (hS : s.heap.get? S = some { cls := .type "list", data := .seq pre c₀ })
    (hR : ∀ h' tk acc' c', (∀ b o, b ≠ S → s.heap.get? b = some o → h'.get? b = some o) → h'.get? S = some { cls := .type "list", dict := none, data := .seq (pre ++ acc') c', slots := #[] } →
      ItemsOf (SignAt x) acc' x.cps.size → R (.ok (.ret res)) { s with heap := h', toks := tk }) (hn : pre.size + x.cps.size ≤ sizeLine) :
    wpAny (model prog w) A.in1 (Builtin.List.listExtendWith (.ref S) (.str x t) res)
      (fun fin s' => match fin with | .done f => R (.ok f) s' | .again c' => c'.quiet = true ∧ codeAny (model prog w) A c' R s') (fun e s' => R (.error e) s') s := by
  have hSI : S ≠ s.heap.objs.size := Nat.ne_of_lt (Heap.lt_size hS)
  have hSf : S ∉ [s.heap.objs.size] := fun hm => hSI (List.mem_singleton.mp hm)
  unfold Builtin.List.listExtendWith
  refine wpAny_bind (wpAny_typeOf (T := "str") (v := .str x t) rfl ?_)
  have h1 : Builtin.List.listSameRef (.ref S) (.str x t) = false := rfl
  have h2 : (Value.type "str" == Value.type "list") = false := by decide
  have h3 : (Value.type "str" == Value.type "tuple") = false := by decide
  simp only [h1, h2, h3, Bool.or_false, Bool.false_eq_true, if_false]
  refine wpAny_bind (wpAny_pyIter_str fun o St W hst => ?_)
  refine wpAny_bind (wpAny_holding ?_)
  unfold Builtin.List.listLengthHint
  refine wpAny_bind (wpAny_specialOf (T := "str") (v := .str x t) rfl F.str_len ?_)
  wp_delta
  refine wpAny_bind (wpAny_isInstance (T := "str") (v := .str x t) (b := true) rfl (by rw [isSubtype_type]; kernel_rfl) ?_)
  show wpAny _ _ (typeOf (Value.str x t) >>= _) _ _ _
  refine wpAny_bind (wpAny_typeOf (T := "str") (v := .str x t) rfl ?_)
  refine wpAny_pure ?_
  rw [if_neg (by decide)]
  refine wpAny_pure ⟨plainId_quiet F.plain_extend_loop _, ext_loop (W A.in1 hh).toS _ hSf _ pre hn x.cps.size 0 _ #[] _ rfl (Nat.zero_le _) hst (Heap.get?_push_of_some _ (by rw [Array.append_empty]; exact hS)) (ItemsOf.nil _) fun s' acc' c' hm hS' hacc => ?_⟩
  rw [Moved.eq_with hm]
  refine hR s'.heap s'.toks acc' c' (fun b ob hb e => hm.heap b ob (fun hmem => ?_) (Heap.get?_push_of_some _ e)) hS' hacc
  rcases List.mem_cons.mp hmem with e' | hmem
  · exact hb e'
  · exact absurd (Heap.lt_size e) (by rw [List.mem_singleton.mp hmem]; exact Nat.lt_irrefl _)
end
def sgV (z : Str) : List V := z.cps.toList.map fun c => .str ⟨#[c]⟩
def sgM (z : Str) : List MV := z.cps.toList.map fun c => .str ⟨#[c]⟩
def rExtS : V → List V → Hp → VK → Prop := fun x vs H Q => ∃ (l : Addr) (z : Str) (xs : List V), x = .ref l ∧ vs = [.str z] ∧ H l = some (.lst xs) ∧ xs.length + z.cps.size ≤ sizeLine ∧ Q .non (upd H l (.lst (xs ++ sgV z)))
theorem mt_extS {X : Cx} (hc : X.calm = true) : MtR X "list.extend" rExtS := by
  intro pins s σ H x vs v us Q I rx rv h
  obtain ⟨l, z, xs, rfl, rfl, hH, hz, q⟩ := h
  cases rx
  obtain ⟨u, rfl, t, rfl⟩ := vals1 rv
  obtain ⟨y, its, n, r, hl, e⟩ := I.lstM hH
  have hlen : its.length = xs.length := by rw [← r.length]
  have hh : X.A.handled = none := I.ok.hd hc
  refine wpAny_call (codeAny_call_builtin F.slot_list_extend.plain F.entry_list_extend (F.slot_list_extend.check _ _ _ _ _ _ _ _ ⟨_, e, rfl⟩ (F.args_list_extend_2 _ _) ?_))
  show wpAny _ _ (Builtin.List.listExtendWith (.ref l) (.str z t) .none) _ _ _
  refine ext_str (R := fun r s' => match r with | .ok (.ret v) => EP X pins σ Q v s' | .ok _ => False | .error e => X.xe e s') hh z t l .none its.toArray n e (fun h' tk acc' c' kp e' it => ?_) (by rw [List.size_toArray, hlen]; exact hz)
  have rv2 : Vals (sgV z) acc'.toList := signs_vals it
  have hl2 : (xs ++ sgV z).length ≤ sizeLine := by unfold sgV; simpa using hz
  refine ⟨.non, upd H l (.lst (xs ++ sgV z)), I.write (e := l) (t' := tk) (by rw [hH]; trivial) (.inl rfl) (fun b u hb hu => kp b u hb hu) ⟨_, e'⟩ ⟨hl2, its ++ acc'.toList, c', r.append rv2, by rw [e']; simp⟩, rfl, q⟩
def mExtS (x : MV) (ys : List MV) : M MV := match ys with
  | [.str z] => fun h => match lstAt x h with
    | some (n, xs) => if xs.length + z.cps.size ≤ sizeLine then some (.ok .non (h.set n (.lst (xs ++ sgM z)))) else none
    | none => none
  | ys => mExtend x ys
theorem o_extS {K : PySem.W.Frag} : OpM K mExtS (fun x vs H Q => rExtend x vs H Q ∨ rExtS x vs H Q) := fun {W σ φ h H v x vs xs R Q} s r1 r2 e p => by
  unfold mExtS at e
  split at e
  · rename_i z
    split at e
    · rename_i n zs q
      split at e
      · rename_i hz
        cases e
        obtain ⟨w, rfl, rw_⟩ := one_inv r2
        unfold Rv at rw_
        subst rw_
        obtain ⟨a, us, rfl, e2, e3, r3⟩ := lstAt_ok s r1 q
        exact .inr ⟨a, z, us, rfl, rfl, e3, by rw [r3.length]; exact hz, end_set s e2 (r3.app (Rvs.map (fun c => by unfold Rv; rfl) _)) rv_n p⟩
      · cases e
    · cases e
  · exact .inl (o_extend s r1 r2 e p)
theorem a_ext {X : Cx} (hc : X.calm = true) : MtR X "list.extend" (fun x vs H Q => rExtend x vs H Q ∨ rExtS x vs H Q) := MtR.or mt_extend (mt_extS hc)
end Mi
/-! Mi: the law's end -/
namespace Mi
open PySem PySem.Spec PyProof.Rows L2 Ob StX
theorem law_start {K : PySem.W.Frag} {F : List MV → M MV} {H : Hp} {a : Addr} {ns : List Int} (hS : SqL K H a (ns.map V.int)) (h : ∃ h', F [.rol (ns.map .int)] [] = some (.ok (.bl true) h')) : spM K F [.ref a] H (fun v _ => v = .bl true) fun _ _ _ => False := by
  obtain ⟨h', e⟩ := h
  refine ⟨⟨[], []⟩, [], _, _, ⟨rfl, List.nodup_nil, fun i a q => by simp at q, fun a m => by simp at m⟩, ?_, e, fun v φ' H' f s r => by unfold Rv at r; exact r⟩
  refine rvs_cons ?_ rvs_nil
  unfold Rv
  exact ⟨a, _, rfl, hS.imp (fun r => ⟨r, by simp, by simp⟩) id, Rvs.map (fun i => by unfold Rv; rfl) ns⟩
end Mi
/-! Mi: what holds behind a piece of the machine: reasoning -/
namespace Mi
open PySem PySem.Spec PyProof.Rows L2 Ob StX
section
variable {α β γ : Type}
def Wm (r : Option (Rs α)) (Q : α → Mh → Prop) (E : Exn → Mh → Prop) : Prop := match r with
  | some (.ok a h) => Q a h
  | some (.ex e h) => E e h
  | none => False
def Ws (r : Option SR) (nx : Sg → Mh → Prop) (rt : MV → Mh → Prop) (bk ct : Sg → Mh → Prop) (ex : Exn → Sg → Mh → Prop) : Prop := match r with
  | some (.nx g h) => nx g h
  | some (.rt v h) => rt v h
  | some (.bk g h) => bk g h
  | some (.ct g h) => ct g h
  | some (.ex e g h) => ex e g h
  | none => False
/-- no exception -/
abbrev NE : Exn → Mh → Prop := fun _ _ => False
theorem Wm.out {r : Option (Rs α)} {Q : α → Mh → Prop} (w : Wm r Q NE) : ∃ a h, r = some (.ok a h) ∧ Q a h := by
  cases r with
  | none => exact w.elim
  | some r =>
    cases r with
    | ok a h => exact ⟨a, h, rfl, w⟩
    | ex e h => exact w.elim
theorem Wm.mono {r : Option (Rs α)} {Q Q' : α → Mh → Prop} {E E' : Exn → Mh → Prop} (w : Wm r Q E) (k : ∀ a h, Q a h → Q' a h) (k2 : ∀ e h, E e h → E' e h) : Wm r Q' E' := by
  cases r with
  | none => exact w.elim
  | some r =>
    cases r with
    | ok a h => exact k _ _ w
    | ex e h => exact k2 _ _ w
/-- no exception, whatever is wished of one -/
theorem Wm.ne {r : Option (Rs α)} {Q Q' : α → Mh → Prop} {E : Exn → Mh → Prop} (w : Wm r Q NE) (k : ∀ a h, Q a h → Q' a h) : Wm r Q' E := w.mono k fun _ _ z => z.elim
theorem Ws.mono {r : Option SR} {nx nx' : Sg → Mh → Prop} {rt rt' : MV → Mh → Prop} {bk ct bk' ct' : Sg → Mh → Prop} {ex ex' : Exn → Sg → Mh → Prop} (w : Ws r nx rt bk ct ex) (k1 : ∀ g h, nx g h → nx' g h) (k2 : ∀ v h, rt v h → rt' v h) (k3 : ∀ g h, bk g h → bk' g h) (k4 : ∀ g h, ct g h → ct' g h) (k5 : ∀ e g h, ex e g h → ex' e g h) : Ws r nx' rt' bk' ct' ex' := by
  cases r with
  | none => exact w.elim
  | some r => cases r <;> first | exact k1 _ _ w | exact k2 _ _ w | exact k3 _ _ w | exact k4 _ _ w | exact k5 _ _ _ w
variable {Q : α → Mh → Prop} {E : Exn → Mh → Prop}
@[simp] theorem wm_ok {a : α} {h : Mh} : Wm (some (.ok a h)) Q E = Q a h := rfl
@[simp] theorem wm_ex {e : Exn} {h : Mh} : Wm (some (.ex e h)) Q E = E e h := rfl
@[simp] theorem wm_none : Wm none Q E = False := rfl
@[simp] theorem wm_bd {m : M β} {f : β → M α} {h : Mh} : Wm (bd m f h) Q E = Wm (m h) (fun a h => Wm (f a h) Q E) E := by
  unfold bd
  cases m h with
  | none => rfl
  | some r => cases r <;> rfl
@[simp] theorem wm_pu {a : α} {h : Mh} : Wm (pu a h) Q E = Q a h := rfl
@[simp] theorem wm_ite {c : Prop} [Decidable c] {a b : Option (Rs α)} : Wm (if c then a else b) Q E = if c then Wm a Q E else Wm b Q E := by split <;> rfl
@[simp] theorem wm_itf {c : Prop} [Decidable c] {a b : M α} {h : Mh} : Wm ((if c then a else b) h) Q E = if c then Wm (a h) Q E else Wm (b h) Q E := by split <;> rfl
variable {nx : Sg → Mh → Prop} {rt : MV → Mh → Prop} {bk ct : Sg → Mh → Prop} {ex : Exn → Sg → Mh → Prop} {g : Sg} {h : Mh}
@[simp] theorem ws_nx : Ws (some (.nx g h)) nx rt bk ct ex = nx g h := rfl
@[simp] theorem ws_rt {v : MV} : Ws (some (.rt v h)) nx rt bk ct ex = rt v h := rfl
@[simp] theorem ws_bk : Ws (some (.bk g h)) nx rt bk ct ex = bk g h := rfl
@[simp] theorem ws_ct : Ws (some (.ct g h)) nx rt bk ct ex = ct g h := rfl
@[simp] theorem ws_ex {e : Exn} : Ws (some (.ex e g h)) nx rt bk ct ex = ex e g h := rfl
@[simp] theorem ws_none : Ws none nx rt bk ct ex = False := rfl
@[simp] theorem ws_ite {c : Prop} [Decidable c] {a b : Option SR} : Ws (if c then a else b) nx rt bk ct ex = if c then Ws a nx rt bk ct ex else Ws b nx rt bk ct ex := by split <;> rfl
@[simp] theorem ws_itf {c : Prop} [Decidable c] {a b : MS} : Ws ((if c then a else b) g h) nx rt bk ct ex = if c then Ws (a g h) nx rt bk ct ex else Ws (b g h) nx rt bk ct ex := by split <;> rfl
@[simp] theorem ws_seq {A B : MS} : Ws (sSeq A B g h) nx rt bk ct ex = Ws (A g h) (fun g h => Ws (B g h) nx rt bk ct ex) rt bk ct ex := by
  unfold sSeq
  cases A g h with
  | none => rfl
  | some r => cases r <;> rfl
@[simp] theorem ws_bs {A : Sg → M β} {k : β → MS} : Ws (bs A k g h) nx rt bk ct ex = Wm (A g h) (fun x h => Ws (k x g h) nx rt bk ct ex) (fun e h => ex e g h) := by
  unfold bs
  cases A g h with
  | none => rfl
  | some r => cases r <;> rfl
@[simp] theorem ws_if {T : Sg → M Bool} {A B : MS} : Ws (sIf T A B g h) nx rt bk ct ex = Wm (T g h) (fun k h => if k = true then Ws (A g h) nx rt bk ct ex else Ws (B g h) nx rt bk ct ex) (fun e h => ex e g h) := by
  unfold sIf
  rw [ws_bs]
  congr
  funext k h
  cases k <;> rfl
@[simp] theorem ws_for {I : Sg → M MIt} {T : MT} {B : MS} : Ws (sFor I T B g h) nx rt bk ct ex = Wm (I g h) (fun it h => Ws (forN FUEL it T B 0 g h) nx rt bk ct ex) (fun e h => ex e g h) := by
  unfold sFor
  rw [ws_bs]
theorem wm_fn {p n : Nat} {B : MS} {xs : List MV} {h : Mh} {Q : MV → Mh → Prop} {E : Exn → Mh → Prop} : Wm (fnM p n B xs h) Q E = (xs.length = p ∧ Ws (B (xs.map some ++ List.replicate (n - xs.length) none) h) (fun _ h => Q .non h) Q (fun _ _ => False) (fun _ _ => False) (fun e _ h => E e h)) := by
  unfold fnM
  by_cases c : xs.length = p
  · rw [if_pos c]
    simp only [c, true_and]
    cases B (xs.map some ++ List.replicate (n - p) none) h with
    | none => rfl
    | some r => cases r <;> rfl
  · rw [if_neg c]
    simp [c]
/-! loops -/
theorem for_inv {xs : List MV} {T : MT} {B : MS} (Inv : Nat → Sg → Mh → Prop) (hl : xs.length < 1000000000) (h0 : Inv 0 g h)
    (step : ∀ i x g h, xs[i]? = some x → Inv i g h → Wm (T x g h) (fun g1 h1 => Ws (B g1 h1) (Inv (i + 1)) rt nx (Inv (i + 1)) ex) NE)
    (done : ∀ g h, Inv xs.length g h → nx g h) : Ws (forN FUEL (itC xs) T B 0 g h) nx rt bk ct ex := by
  have key : ∀ n i g h, i ≤ xs.length → xs.length < i + n → Inv i g h → Ws (forN n (itC xs) T B i g h) nx rt bk ct ex := by
    intro n
    induction n with
    | zero => intro i g h a b; omega
    | succ n ih =>
      intro i g h a b q
      unfold forN
      show Ws (match some xs[i]? with
        | none => none
        | some none => some (.nx g h)
        | some (some x) => _) nx rt bk ct ex
      cases e : xs[i]? with
      | none =>
        have : i = xs.length := by
          have := List.getElem?_eq_none_iff.mp e
          omega
        subst this
        exact done g h q
      | some x =>
        have hi : i < xs.length := (List.getElem?_eq_some_iff.mp e).1
        have st := step i x g h e q
        dsimp only
        cases eT : T x g h with
        | none => rw [eT] at st; exact st.elim
        | some r1 =>
          rw [eT] at st
          cases r1 with
          | ex e1 h1 => exact st.elim
          | ok g1 h1 =>
            have st : Ws (B g1 h1) (Inv (i + 1)) rt nx (Inv (i + 1)) ex := st
            dsimp only
            cases eB : B g1 h1 with
            | none => rw [eB] at st; exact st.elim
            | some r2 =>
              rw [eB] at st
              cases r2 with
              | nx g2 h2 => exact ih (i + 1) g2 h2 hi (by omega) st
              | ct g2 h2 => exact ih (i + 1) g2 h2 hi (by omega) st
              | bk g2 h2 => exact st
              | rt v h2 => exact st
              | ex e2 g2 h2 => exact st
  exact key FUEL 0 g h (Nat.zero_le _) (by rw [FUEL_eq]; omega) h0
theorem while_inv {C : Sg → M Bool} {B F : MS} (Inv : Nat → Sg → Mh → Prop) (m : Nat) (hm : m < 1000000000) (h0 : Inv m g h)
    (step : ∀ m g h, Inv m g h → Wm (C g h) (fun k h => if k = true then Ws (B g h) (fun g h => ∃ l, l < m ∧ Inv l g h) rt nx (fun g h => ∃ l, l < m ∧ Inv l g h) ex else Ws (F g h) nx rt bk ct ex) (fun e h => ex e g h)) :
    Ws (sWhile C B F g h) nx rt bk ct ex := by
  have key : ∀ n m g h, m < n → Inv m g h → Ws (whileN n C B F g h) nx rt bk ct ex := by
    intro n
    induction n with
    | zero => intro m g h a; omega
    | succ n ih =>
      intro m g h a q
      unfold whileN
      rw [ws_bs]
      refine (step m g h q).mono (fun k h1 st => ?_) fun e h z => z
      cases k with
      | false =>
        rw [if_neg (by decide)] at st ⊢
        exact st
      | true =>
        rw [if_pos rfl] at st ⊢
        cases eB : B g h1 with
        | none => rw [eB] at st; exact st.elim
        | some r2 =>
          rw [eB] at st
          cases r2 with
          | nx g2 h2 =>
            obtain ⟨l, l1, l2⟩ : ∃ l, l < m ∧ Inv l g2 h2 := st
            exact ih l g2 h2 (by omega) l2
          | ct g2 h2 =>
            obtain ⟨l, l1, l2⟩ : ∃ l, l < m ∧ Inv l g2 h2 := st
            exact ih l g2 h2 (by omega) l2
          | bk g2 h2 => exact st
          | rt v h2 => exact st
          | ex e2 g2 h2 => exact st
  exact key FUEL m g h (by rw [FUEL_eq]; omega) h0
theorem comp_inv {xs : List MV} {T : CT} {C : Sg → M Bool} {F : Sg → M MV} {Q : List MV → Mh → Prop} (Inv : Nat → List MV → Mh → Prop) (hl : xs.length < 16000000) (h0 : Inv 0 [] h)
    (step : ∀ i x acc h, xs[i]? = some x → Inv i acc h → ∃ g1, T x g = some g1 ∧ Wm (C g1 h) (fun k h1 => if k = true then Wm (F g1 h1) (fun y h2 => Inv (i + 1) (acc ++ [y]) h2) NE else Inv (i + 1) acc h1) NE)
    (done : ∀ acc h, Inv xs.length acc h → Q acc h) : Wm (compN FUEL (itC xs) T C F g 0 [] h) Q E := by
  have key : ∀ n i acc h, i ≤ xs.length → xs.length < i + n → acc.length ≤ i → Inv i acc h → Wm (compN n (itC xs) T C F g i acc h) Q E := by
    intro n
    induction n with
    | zero => intro i acc h a b; omega
    | succ n ih =>
      intro i acc h a b c q
      unfold compN
      show Wm (match some xs[i]? with
        | none => none
        | some none => some (.ok acc h)
        | some (some x) => _) Q E
      cases e : xs[i]? with
      | none =>
        have : i = xs.length := by
          have := List.getElem?_eq_none_iff.mp e
          omega
        subst this
        exact done acc h q
      | some x =>
        have hi : i < xs.length := (List.getElem?_eq_some_iff.mp e).1
        obtain ⟨g1, eT, st⟩ := step i x acc h e q
        dsimp only
        rw [eT]
        dsimp only
        obtain ⟨k, h1, eC, st⟩ := st.out
        rw [eC]
        cases k with
        | false => exact ih (i + 1) acc h1 hi (by omega) (by omega) st
        | true =>
          rw [if_pos rfl] at st
          obtain ⟨y, h2, eE, st⟩ := st.out
          dsimp only
          rw [eE]
          dsimp only
          rw [if_pos (by rw [sizeLine_eq]; omega)]
          exact ih (i + 1) (acc ++ [y]) h2 hi (by omega) (by simp; omega) st
  exact key FUEL 0 [] h (Nat.zero_le _) (by rw [FUEL_eq]; omega) (Nat.zero_le _) h0
end
end Mi
/-! Mi: heaps in which only the bag changes -/
namespace Mi
open PySem PySem.Spec PyProof.Rows L2 Ob StX
def Bg (h : Mh) (b : Nat) : Prop := ∃ g r c : Int, h[b]? = some (.lst [.int g, .int r, .int c]) ∧ 0 ≤ g ∧ 0 ≤ r ∧ r < 2147483647
/-- only the object at b changes (it stays a bag); objects come -/
structure Kp (b : Nat) (h h' : Mh) : Prop where
  len : h.length ≤ h'.length
  keep : ∀ n o, n ≠ b → h[n]? = some o → h'[n]? = some o
  bag : Bg h' b
theorem Bg.lt {h : Mh} {b : Nat} (g : Bg h b) : b < h.length := by
  obtain ⟨_, _, _, e, _⟩ := g
  exact (List.getElem?_eq_some_iff.mp e).1
theorem at_lt {h : Mh} {n : Nat} {o : MO} (e : h[n]? = some o) : n < h.length := (List.getElem?_eq_some_iff.mp e).1
theorem Kp.refl {b : Nat} {h : Mh} (g : Bg h b) : Kp b h h := ⟨Nat.le_refl _, fun _ _ _ e => e, g⟩
theorem Kp.trans {b : Nat} {h h1 h2 : Mh} (a : Kp b h h1) (c : Kp b h1 h2) : Kp b h h2 := ⟨Nat.le_trans a.len c.len, fun n o d e => c.keep n o d (a.keep n o d e), c.bag⟩
theorem set_at {h : Mh} {b : Nat} {o x : MO} (e : h[b]? = some o) : (h.set b x)[b]? = some x := by
  have := at_lt e
  simp [List.getElem?_set, this]
/-- the bag is written -/
theorem Kp.put {b : Nat} {h : Mh} {o : MO} {g r c : Int} (e : h[b]? = some o) (h1 : 0 ≤ g) (h2 : 0 ≤ r) (h3 : r < 2147483647) : Kp b h (h.set b (.lst [.int g, .int r, .int c])) :=
  ⟨by simp, fun n o d q => by rw [List.getElem?_set_ne (Ne.symm d)]; exact q, ⟨g, r, c, set_at e, h1, h2, h3⟩⟩
/-- an object comes -/
theorem Kp.push {b : Nat} {h : Mh} (g : Bg h b) (o : MO) : Kp b h (h ++ [o]) :=
  ⟨by simp, fun n o d q => by rw [List.getElem?_append_left (at_lt q)]; exact q, by
    obtain ⟨x, y, z, e, k⟩ := g
    exact ⟨x, y, z, by rw [List.getElem?_append_left (at_lt e)]; exact e, k⟩⟩
theorem Bg.set {b n : Nat} {h : Mh} (g : Bg h b) (d : n ≠ b) (o : MO) : Bg (h.set n o) b := by
  obtain ⟨x, y, z, e, k⟩ := g
  exact ⟨x, y, z, by rw [List.getElem?_set_ne d]; exact e, k⟩
/-- an object that came after h is written -/
theorem Kp.late {b n : Nat} {h h1 : Mh} (k : Kp b h h1) (hn : h.length ≤ n) (d : n ≠ b) (o : MO) : Kp b h (h1.set n o) :=
  ⟨by simpa using k.len, fun m p dm q => by
    have : m < h.length := at_lt q
    rw [List.getElem?_set_ne (by omega)]
    exact k.keep m p dm q, k.bag.set d o⟩
/-- cut behind the first statement -/
theorem ws_cut {A B : MS} {g : Sg} {h : Mh} {nx : Sg → Mh → Prop} {rt : MV → Mh → Prop} {bk ct : Sg → Mh → Prop} {ex : Exn → Sg → Mh → Prop} (P : Sg → Mh → Prop) (a : Ws (A g h) P rt bk ct ex) (b : ∀ g h, P g h → Ws (B g h) nx rt bk ct ex) : Ws (sSeq A B g h) nx rt bk ct ex := by
  rw [ws_seq]
  exact a.mono b (fun _ _ z => z) (fun _ _ z => z) (fun _ _ z => z) (fun _ _ _ z => z)
theorem push_at {h : Mh} {o : MO} : (h ++ [o])[h.length]? = some o := by simp
end Mi
/-! Mi: == by an own __eq__; repr of a number -/
namespace Mi
open PySem PySem.Spec PyProof.Rows L2 Ob StX PySem.W
section
variable {X : Cx} {K : Frag} {W : WX} {c : Str} {k : Nat} {f : Addr} {F : List MV → M MV}
def rEqO (K : Frag) (c : Str) (F : List MV → M MV) : R2 := fun x y H Q => ∃ a b dx dy fs gs, x = .ref a ∧ y = .ref b ∧ H a = some (.ins (He.ga K c) dx fs) ∧ H b = some (.ins (He.ga K c) dy gs) ∧ spM K F [.ref a, .ref b] H (fun v H' => (∃ k, v = .bl k) ∧ Q v H') (fun _ _ _ => False)
theorem op_eqO (ek : X.K = K) (hm : Meth K (He.ga K c) "__eq__" f) (Fn : FnM X.prog X.w K X.mg X.base k f F) (hr : Room k X.A) : OpR X (compareOp .Eq) (rEqO K c F) := by
  subst ek
  intro pins s σ H x y v u Q I rx ry h
  obtain ⟨a, b, dx, dy, fs, gs, rfl, rfl, ha, hb, hq⟩ := h
  obtain rfl : v = Value.ref a := rx
  obtain rfl : u = Value.ref b := ry
  obtain ⟨mA, J, _⟩ := ins_get I.hok ha
  obtain ⟨mB, J', _⟩ := ins_get I.hok hb
  obtain ⟨od, J, _⟩ := J.look
  obtain ⟨od', J', _⟩ := J'.look
  obtain ⟨m, hF⟩ := I.fr
  show wpAny _ _ (richCompare .Eq (.ref a) (.ref b)) _ _ _
  refine PySem.W.cmp_K (op := .Eq) (tb := .ref (He.ga X.K c)) hr.units0 hF I.ok.mod.kin J J'.type (by simp [PySem.W.notFirst]) hm.at_ hm.fn ?_
  have r2 : Vals [V.ref a, V.ref b] [Value.ref a, Value.ref b] := .cons rfl (.cons rfl .nil)
  refine wpAny_call (codeAny_mono (run_call (W := WF) (Q := fun v H' => (∃ k, v = .bl k) ∧ Q v H') Fn hr takesF I r2 hq) fun r s' z => ?_)
  cases r with
  | error e => exact z
  | ok fl =>
    cases fl with
    | ret u =>
      obtain ⟨v, H', I', rv, ⟨k, rfl⟩, q⟩ := z
      obtain rfl : u = Value.bool k := rv
      exact ⟨.bl k, H', I', rfl, q⟩
    | next => exact z
    | brk => exact z
    | cont => exact z
def mEqO (c : Str) (F : List MV → M MV) (x y : MV) : M MV := fun h => match insAt x h, insAt y h with
  | some (c1, _), some (c2, _) => if c1 = c ∧ c2 = c then (match F [x, y] h with
    | some (.ok (.bl b) h') => some (.ok (.bl b) h')
    | _ => none) else none
  | _, _ => none
theorem o_eqO : Op2 K (mEqO c F) (rEqO K c F) := fun {W σ φ h H v w x y R Q} s r1 r2 e p => by
  unfold mEqO at e
  split at e
  · rename_i c1 fs1 c2 fs2 q1 q2
    split at e
    · rename_i hc
      obtain ⟨rfl, rfl⟩ := hc
      obtain ⟨a, dx, fs, rfl, e2, e3, e4⟩ := insAt_ok s r1 q1
      obtain ⟨b, dy, gs, rfl, e5, e6, e7⟩ := insAt_ok s r2 q2
      refine ⟨a, b, dx, dy, fs, gs, rfl, rfl, e2, e5, ?_⟩
      cases z : F [x, y] h with
      | none => rw [z] at e; cases e
      | some R0 =>
        refine ⟨φ, h, [x, y], R0, s, rvs_cons r1 (rvs_cons r2 rvs_nil), z, ?_⟩
        rw [z] at e
        cases R0 with
        | ex ee h' => cases e
        | ok m h' =>
          cases m with
          | bl b =>
            cases e
            exact fun v φ' H' f' s' rv => ⟨⟨b, by unfold Rv at rv; exact rv⟩, p v φ' H' f' s' rv⟩
          | _ => cases e
    · cases e
  · cases e
end
/-! isinstance(x, C), C a class of the text -/
def isoB (K : Frag) (c : Str) (cs : List Str) : Bool := (He.eqO (specialIn K (.builtin "object.__class__") "__get__") (some (some (.builtin "getset_descriptor.__get__"))) && (decide (takesIn K (.builtin "object.__class__") = some true) &&
  ((cs.all fun d => He.eqO (findIn K (.ref (He.ga K d)) "__class__") (some (some (.builtin "object.__class__"))) && (decide (mroIn K (He.ga K d) (.type "object") = some true) && decide (kitOne K (.ref (He.ga K d)) (.ref (He.ga K c)) = some (decide (d = c))))) &&
  (["NoneType", "bool", "int", "str", "tuple", "list", "dict"] : List String).all fun t => decide (kitOne K (.type t) (.ref (He.ga K c)) = some false))))
inductive AllCl (K : Frag) : List Str → Prop
  | nil : AllCl K []
  | cons {c : Str} {cs : List Str} : Cls K (He.ga K c) → AllCl K cs → AllCl K (c :: cs)
theorem AllCl.at {K : Frag} {c : Str} : ∀ {cs : List Str}, AllCl K cs → c ∈ cs → Cls K (He.ga K c)
  | _, .cons a r, h => by
    rcases List.mem_cons.mp h with e | e
    · rw [e]; exact a
    · exact r.at e
def mIsO (c : Str) (cs : List Str) (x : MV) : M MV := fun h => match insAt x h with
  | some (d, _) => if d ∈ cs then some (.ok (.bl (decide (d = c))) h) else none
  | none => match tyN x h with
    | some t => if t ∈ (["NoneType", "bool", "int", "str", "tuple", "list", "dict"] : List String) then some (.ok (.bl false) h) else none
    | none => none
theorem m_isO {X : Cx} {K : Frag} {W : WX} {c : Str} {cs : List Str} {A : Sg → M MV} {a : Expr} {p p2 pos : Pos} (ek : X.K = K) (hb : isoB K c cs = true) (hC : AllCl K cs) (hg : Gl X "isinstance") (hm : X.mg "isinstance" = none) (hc : X.mg c = some (.ref (He.ga K c))) (ha : PE X a (tM K W A)) (hgc : Gl X c := by rfl) (hdc : (c == ("__debug__" : Str)) = false := by decide)
    (he1 : starEach [.Name c p2] X.env = (false, eval (.Name c p2) X.env) :: starEach [] X.env := by rfl) (he : starEach (a :: [.Name c p2]) X.env = (false, eval a X.env) :: starEach [.Name c p2] X.env := by rfl) (hpl : (backTo pos (starEach [.Name c p2] X.env)).any (·.1) = false := by rfl) :
    PE X (.Call (.Name "isinstance" p) [a, .Name c p2] [] pos) (tM K W (x1 (mIsO c cs) A)) := by
  subst ek
  refine pew (pe_callB call_isi hg hm rfl (pa_cons ha (pa_cons (pe_glob (v := .ref (He.ga X.K c)) hgc hc rfl hdc) pa_nil he1) he) (by decide) (by decide) he hpl) fun σ H Q ⟨φ, g, h, R, hs, hg, e, pp⟩ => bindG hs hg e pp rfl fun x h1 v φ1 H1 f1 s1 g1 r1 e1 p1 => ?_
  obtain ⟨b1, hb⟩ := He.ba hb
  obtain ⟨b2, hb⟩ := He.ba hb
  obtain ⟨b3, b4⟩ := He.ba hb
  unfold mIsO at e1
  split at e1
  · rename_i d fs q
    split at e1
    · rename_i hd
      cases e1
      obtain ⟨a', dx, gs, rfl, e2, _, _⟩ := insAt_ok s1 r1 q
      obtain ⟨h1, h2⟩ := He.ba (List.all_eq_true.mp b3 d hd)
      obtain ⟨h3, h2⟩ := He.ba h2
      exact ⟨_, _, _, _, _, rfl, .own _, .base (.ins e2 (hC.at hd) (He.eqO_ok h1) (He.eqO_ok b1) (of_decide_eq_true b2) (of_decide_eq_true h3)), of_decide_eq_true h2, end_pu s1 (by unfold Rv; rfl) p1⟩
    · cases e1
  · split at e1
    · rename_i t q
      split at e1
      · rename_i ht
        cases e1
        exact ⟨_, _, _, _, _, rfl, .own _, tyN_ok s1 r1 q, of_decide_eq_true (List.all_eq_true.mp b4 t ht), end_pu s1 (by unfold Rv; rfl) p1⟩
      · cases e1
    · cases e1
def mReprA (xs : List MV) : M MV := match xs with
  | [.int i] => fun h => if i.natAbs.log2 < 1920 then some (.ok (.str (toString i)) h) else none
  | [.non] => fun h => some (.ok (.str "None") h)
  | [.bl b] => fun h => some (.ok (.str (if b then "True" else "False")) h)
  | [.str z] => fun h => if (reprText z).length ≤ sizeLine then some (.ok (.str (reprText z)) h) else none
  | xs => mRepr xs
def rReprF : List V → Hp → VK → Prop := fun xs H Q => (∃ i, xs = [.int i] ∧ i.natAbs.log2 < 1920 ∧ Q (.str (toString i)) H) ∨ (xs = [.non] ∧ Q (.str "None") H) ∨ (∃ b, xs = [.bl b] ∧ Q (.str (if b then "True" else "False")) H) ∨ ∃ z, xs = [.str z] ∧ (reprText z).length ≤ sizeLine ∧ Q (.str (reprText z)) H
theorem call_reprF {X : Cx} : CallR X (.builtin "repr") rReprF := by
  intro pins s σ H xs us Q I r h
  rcases h with ⟨i, rfl, hz, q⟩ | ⟨rfl, q⟩ | ⟨b, rfl, q⟩ | ⟨z, rfl, hz, q⟩
  · obtain ⟨u, rfl, t, rfl⟩ := vals1 r
    exact PySem.P.repr_of_int hz ⟨.str _, H, I.tok _, ⟨_, rfl⟩, q⟩
  · obtain ⟨u, rfl, rfl⟩ := vals1 r
    exact PySem.P.repr_of_none ⟨.str _, H, I.tok _, ⟨_, rfl⟩, q⟩
  · obtain ⟨u, rfl, rfl⟩ := vals1 r
    exact PySem.P.repr_of_bool ⟨.str _, H, I.tok _, ⟨_, rfl⟩, q⟩
  · obtain ⟨u, rfl, t, rfl⟩ := vals1 r
    exact PySem.P.repr_of_str ⟨.str _, H, I.tok _, ⟨_, rfl⟩, q⟩ hz
theorem o_reprA {K : PySem.W.Frag} : OpN K mReprA (fun xs H Q => rReprF xs H Q ∨ rRepr K xs H Q) := fun {W σ φ h H vs xs R Q} s r e p => by
  unfold mReprA at e
  split at e
  · split at e
    · obtain ⟨v, rfl, r1⟩ := one_inv r
      unfold Rv at r1
      subst r1
      cases e
      exact .inl (.inl ⟨_, rfl, by assumption, end_pu s (by unfold Rv; rfl) p⟩)
    · cases e
  · obtain ⟨v, rfl, r1⟩ := one_inv r
    unfold Rv at r1
    subst r1
    cases e
    exact .inl (.inr (.inl ⟨rfl, end_pu s (by unfold Rv; rfl) p⟩))
  · obtain ⟨v, rfl, r1⟩ := one_inv r
    unfold Rv at r1
    subst r1
    cases e
    exact .inl (.inr (.inr (.inl ⟨_, rfl, end_pu s (by unfold Rv; rfl) p⟩)))
  · split at e
    · obtain ⟨v, rfl, r1⟩ := one_inv r
      unfold Rv at r1
      subst r1
      cases e
      exact .inl (.inr (.inr (.inr ⟨_, rfl, by assumption, end_pu s (by unfold Rv; rfl) p⟩)))
    · cases e
  · exact .inr (o_repr s r e p)
theorem a_repr {X : Cx} {K : PySem.W.Frag} {k : Nat} (ek : X.K = K) (hr : RoomG k X.A) : CallR X (.builtin "repr") (fun xs H Q => rReprF xs H Q ∨ rRepr K xs H Q) := by
  subst ek
  exact L2.CallR.or call_reprF (call_reprG hr)
end Mi
/-! Mi: == of texts; reasoning about try -/
namespace Mi
open PySem PySem.Spec PyProof.Rows L2 Ob StX PySem.W
section
variable {K : PySem.W.Frag}
def mEqS (x y : MV) : M MV := match x, y with
  | .str a, .str b => fun h => some (.ok (.bl (decide (a = b))) h)
  | x, y => mEq x y
def mNeS (x y : MV) : M MV := match x, y with
  | .str a, .str b => fun h => some (.ok (.bl (!decide (a = b))) h)
  | x, y => mNe x y
theorem o_eqS : Op2 K mEqS (or2 (rEqD K) rEq) := fun {W σ φ h H v w x y R Q} s r1 r2 e p => by
  unfold mEqS at e
  split at e
  · rename_i a b
    unfold Rv at r1 r2
    subst r1 r2
    cases e
    refine .inr ⟨rfl, ?_⟩
    have := bl_end s p
    rwa [show decide (V.str a = V.str b) = decide (a = b) by simp]
  · exact .inl (o_eq s r1 r2 e p)
theorem o_neS : Op2 K mNeS (or2 (rNeD K) rNe) := fun {W σ φ h H v w x y R Q} s r1 r2 e p => by
  unfold mNeS at e
  split at e
  · rename_i a b
    unfold Rv at r1 r2
    subst r1 r2
    cases e
    refine .inr ⟨rfl, ?_⟩
    have := bl_end s p
    rwa [show decide (V.str a = V.str b) = decide (a = b) by simp]
  · exact .inl (o_ne s r1 r2 e p)
theorem a_eqS {X : Cx} (ek : X.K = K) (hu : X.A.units + 64 < cLine) : OpR X (compareOp .Eq) (or2 (rEqD K) rEq) := Mi.OpR.or (kop_eqD ek hu) op_eq
theorem a_neS {X : Cx} (ek : X.K = K) (hu : X.A.units + 64 < cLine) : OpR X (compareOp .NotEq) (or2 (rNeD K) rNe) := Mi.OpR.or (kop_neD ek hu) op_ne
end
section
variable {nx : Sg → Mh → Prop} {rt : MV → Mh → Prop} {bk ct : Sg → Mh → Prop} {ex : Exn → Sg → Mh → Prop} {g : Sg} {h : Mh} {i : Nat} {c0 : Str} {ls : List Str} {B : MS}
theorem ws_tryAs {S : Addr → Option Addr → MS} : Ws (sTryAs i c0 ls B S g h) nx rt bk ct ex = Ws (B g h) nx rt bk ct (fun e g' h' => match mtc c0 ls e.cl with
    | some true => Ws (if okF e then (S 0 none (g'.set i (some (exF e 0 none))) h').bind (cutS i) else none) nx rt bk ct ex
    | some false => ex e g' h'
    | none => False) := by
  unfold sTryAs
  cases B g h with
  | none => rfl
  | some r =>
    cases r with
    | ex e g' h' =>
      dsimp only [ws_ex]
      cases mtc c0 ls e.cl with
      | none => rfl
      | some b => cases b <;> rfl
    | _ => rfl
theorem ws_tryO {S : MS} : Ws (sTryO c0 ls B S g h) nx rt bk ct ex = Ws (B g h) nx rt bk ct (fun e g' h' => match mtc c0 ls e.cl with
    | some true => Ws ((S g' h').bind noEx) nx rt bk ct ex
    | some false => ex e g' h'
    | none => False) := by
  unfold sTryO
  cases B g h with
  | none => rfl
  | some r =>
    cases r with
    | ex e g' h' =>
      dsimp only [ws_ex]
      cases mtc c0 ls e.cl with
      | none => rfl
      | some b => cases b <;> rfl
    | _ => rfl
end
end Mi
/-! Mi: where a text stands in a text -/
namespace Mi
open PySem PySem.Spec PyProof.Rows L2 Ob StX PySem.W
section
variable {K : PySem.W.Frag}
def mSIndex (x : MV) (ys : List MV) : M MV := fun h => match x, ys with
  | .str a, [.str b] => match Builtin.Str.occurrences a b 0 a.length 1 with
    | i :: _ => some (.ok (.int (i : Nat)) h)
    | [] => none
  | _, _ => none
theorem o_sindex : OpM K mSIndex (fun x xs H Q => ∃ a b i rest, x = .str a ∧ xs = [.str b] ∧ Builtin.Str.occurrences a b 0 a.length 1 = i :: rest ∧ Q (.int (i : Nat)) H) := fun {W σ φ h H v x vs xs R Q} s r1 r2 e p => by
  unfold mSIndex at e
  split at e
  · split at e
    · rename_i i rest q
      cases e
      obtain ⟨w, rfl, rw_⟩ := one_inv r2
      unfold Rv at r1 rw_
      subst r1 rw_
      exact ⟨_, _, i, rest, rfl, rfl, q, int_end s p⟩
    · cases e
  · cases e
end
end Mi
/-! Mi: generators that sleep: code that does not wake them leaves them as they are -/
namespace Gsl
open PySem
/-- a generator that no code can wake -/
def deaf : GenState → GenState
  | .suspended _ l c p fs cl => .suspended (fun _ => .unsupported "asleep") l c p fs cl
  | x => x
def isSus : GenState → Bool
  | .suspended .. => true
  | _ => false
theorem deaf_seen (x : GenState) : (deaf x).seen = x.seen := by cases x <;> rfl
theorem deaf_bare (x : GenState) : (deaf x).bare = x.bare := by cases x <;> rfl
/-- the generators that sleep in a -/
def sus (a : Array GenState) (i : Nat) : Option GenState := (a[i]?).filter isSus
def back (o : Nat → Option GenState) (a : Array GenState) : Array GenState := a.mapIdx fun i x => (o i).getD x
def backS (o : Nat → Option GenState) (s : Shared) : Shared := { s with gens := back o s.gens }
def hush (s : Shared) : Shared := { s with gens := s.gens.map deaf }
/-- those of o are deaf in the table; no other one that sleeps stands over a generator's frame -/
structure Ok (o : Nat → Option GenState) (a : Array GenState) : Prop where
  deafs : ∀ i x, o i = some x → isSus x = true ∧ a[i]? = some (deaf x)
  rest : ∀ i k l c p fs cl, a[i]? = some (.suspended k l c p fs cl) → o i = none → splitAtGen fs = none
section
variable {o : Nat → Option GenState} {a : Array GenState}
theorem back_at (i : Nat) : (back o a)[i]? = (a[i]?).map fun x => (o i).getD x := Array.getElem?_mapIdx
theorem back_none {i : Nat} (h : o i = none) : (back o a)[i]? = a[i]? := by
  rw [back_at, h]
  cases a[i]? <;> rfl
theorem back_size : (back o a).size = a.size := Array.size_mapIdx
theorem Ok.lt (k : Ok o a) {i : Nat} {x : GenState} (h : o i = some x) : i < a.size := (Array.getElem?_eq_some_iff.mp (k.deafs i x h).2).1
theorem Ok.push (k : Ok o a) (c : Code) : Ok o (a.push (.fresh c)) ∧ back o (a.push (.fresh c)) = (back o a).push (.fresh c) := by
  have no : o a.size = none := by
    cases e : o a.size with
    | none => rfl
    | some x => exact absurd (k.lt e) (Nat.lt_irrefl _)
  refine ⟨⟨fun i x h => ⟨(k.deafs i x h).1, ?_⟩, fun i k' l c' p fs cl h n => ?_⟩, Array.ext_getElem? fun i => ?_⟩
  · rw [Array.getElem?_push, if_neg (Nat.ne_of_lt (k.lt h))]
    exact (k.deafs i x h).2
  · rw [Array.getElem?_push] at h
    split at h
    · cases h
    · exact k.rest i _ _ _ _ _ _ h n
  · rw [back_at, Array.getElem?_push, Array.getElem?_push, back_size, back_at]
    by_cases c1 : i = a.size
    · rw [if_pos c1, if_pos c1, c1, no]
      rfl
    · rw [if_neg c1, if_neg c1]
theorem Ok.put (k : Ok o a) {g : Nat} {x : GenState} (n : o g = none) (hx : ∀ k l c p fs cl, x = .suspended k l c p fs cl → splitAtGen fs = none) : Ok o (a.setIfInBounds g x) ∧ back o (a.setIfInBounds g x) = (back o a).setIfInBounds g x := by
  refine ⟨⟨fun i y h => ⟨(k.deafs i y h).1, ?_⟩, fun i k' l c' p fs cl h n' => ?_⟩, Array.ext_getElem? fun i => ?_⟩
  · have : g ≠ i := fun z => by rw [z, h] at n; cases n
    rw [Array.getElem?_setIfInBounds, if_neg this]
    exact (k.deafs i y h).2
  · rw [Array.getElem?_setIfInBounds] at h
    split at h
    · split at h
      · cases h
        exact hx _ _ _ _ _ _ rfl
      · cases h
    · exact k.rest i _ _ _ _ _ _ h n'
  · rw [back_at, Array.getElem?_setIfInBounds, Array.getElem?_setIfInBounds, back_size, back_at]
    by_cases c1 : g = i
    · rw [if_pos c1, if_pos c1, ← c1, n]
      by_cases c2 : g < a.size
      · rw [if_pos c2]; rfl
      · rw [if_neg c2]; rfl
    · rw [if_neg c1, if_neg c1]
end
theorem mute {M : Model} {Γ : Ctx} {p : Pos} {t : Sem PySem.Fin} {fs : List Frame} {s s' : Shared} {e : End} (h : Runs M Γ p t fs s e s') : ∀ z, t ≠ .unsupported z := by
  induction h with
  | segRet _ _ ih _ => exact ih
  | segGen _ _ ih _ => exact ih
  | segSuspOut _ _ ih => exact ih
  | segSuspGen _ _ _ _ ih _ => exact ih
  | _ => intro z q; cases q
def EndOk (e : End) : Prop := ∀ v g l k c p fs, e = .susp v g l k c p fs → splitAtGen fs = none
theorem EndOk.gen {e : End} (h : EndOk e) : ∀ k l c p fs cl, e.genState = .suspended k l c p fs cl → splitAtGen fs = none := by
  intro k l c p fs cl q
  cases e with
  | ret r => cases q
  | susp v g l' k' c' p' fs' =>
    cases q
    exact h _ _ _ _ _ _ _ rfl
theorem split_app {a b : List Frame} (h : splitAtGen a = none) (k : splitAtGen b = none) : splitAtGen (a ++ b) = none := by
  induction a with
  | nil => exact k
  | cons F a ih =>
    cases F with
    | gen => cases h
    | ret =>
      rw [List.cons_append]
      rw [PySem.splitAtGen_ret] at h ⊢
      rw [Option.map_eq_none_iff] at h ⊢
      exact ih h
theorem put_eq (o : Nat → Option GenState) {s : Shared} {g : Nat} {x : GenState} (k : back o (s.gens.setIfInBounds g x) = (back o s.gens).setIfInBounds g x) : backS o (s.setGen g x) = (backS o s).setGen g x := by
  show { s with gens := back o (s.gens.setIfInBounds g x) } = ({ s with gens := (back o s.gens).setIfInBounds g x } : Shared)
  rw [k]
end Gsl
/-! Mi: a run beside generators that sleep -/
namespace Gsl
open PySem
theorem Ok.no {o : Nat → Option GenState} {a : Array GenState} (k : Ok o a) {g : Nat} {x : GenState} (h : a[g]? = some x) (n : isSus x = false) : o g = none := by
  cases q : o g with
  | none => rfl
  | some w =>
    obtain ⟨e0, e1⟩ := k.deafs g w q
    rw [h] at e1
    cases e1
    cases w <;> first | exact absurd (show false = true from e0) (by decide) | exact absurd (show true = false from n) (by decide)
theorem Ok.noS {o : Nat → Option GenState} {a : Array GenState} (k : Ok o a) {M : Model} {Γ : Ctx} {p p' : Pos} {g : Nat} {r : Resume} {k₀ : Resume → Sem PySem.Fin} {l : List Value} {c : Code} {fs : List Frame} {cl : Bool} {s s' : Shared} {e : End} (h : a[g]? = some (.suspended k₀ l c p' fs cl)) (hr : Runs M Γ p (k₀ r) fs s e s') : o g = none := by
  cases q : o g with
  | none => rfl
  | some w =>
    obtain ⟨e0, e1⟩ := k.deafs g w q
    rw [h] at e1
    cases w with
    | suspended k9 l9 c9 p9 fs9 cl9 =>
      cases e1
      exact absurd rfl (mute hr _)
    | _ => cases e0
theorem genState_back {M : Model} {o : Nat → Option GenState} {Γ : Ctx} {p : Pos} {g : Nat} {st : GenState} {k' : GenStatus × Option (List (Code × Pos)) → Sem PySem.Fin} {s s' : Shared} {e : End} (k : Ok o s.gens) (hst : s.gens[g]? = some st) (z : Runs M Γ p (k' st.seen) [] (backS o s) e s') : Runs M Γ p (.genState g k') [] (backS o s) e s' := by
  cases q : o g with
  | none => exact .genState (s := backS o s) ((back_none q).trans hst) z
  | some w =>
    obtain ⟨_, e1⟩ := k.deafs g w q
    rw [hst] at e1
    cases e1
    rw [deaf_seen] at z
    refine .genState (s := backS o s) (st := w) ?_ z
    show (back o s.gens)[g]? = some w
    rw [back_at, hst, q]
    rfl
theorem newGen_back {M : Model} {o : Nat → Option GenState} {Γ : Ctx} {p : Pos} {c : Code} {k' : Nat → Sem PySem.Fin} {s s' : Shared} {e : End} (k : Ok o s.gens) (z : Runs M Γ p (k' s.gens.size) [] (backS o { s with gens := s.gens.push (.fresh c) }) e s') : Runs M Γ p (.newGen c k') [] (backS o s) e s' := by
  obtain ⟨_, k2⟩ := k.push c
  refine .newGen ?_
  have e1 : backS o { s with gens := s.gens.push (.fresh c) } = { backS o s with gens := (backS o s).gens.push (.fresh c) } := by
    show { s with gens := back o (s.gens.push (.fresh c)) } = ({ s with gens := (back o s.gens).push (.fresh c) } : Shared)
    rw [k2]
  rw [e1] at z
  show Runs _ _ _ (k' (back o s.gens).size) _ _ _ _
  rw [back_size]
  exact z
theorem runs_back {M : Model} {o : Nat → Option GenState} {Γ : Ctx} {p : Pos} {t : Sem PySem.Fin} {fs : List Frame} {s s' : Shared} {e : End} (h : Runs M Γ p t fs s e s') :
    splitAtGen fs = none → Ok o s.gens → EndOk e ∧ Ok o s'.gens ∧ Runs M Γ p t fs (backS o s) e (backS o s') := by
  induction h with
  | done => exact fun _ k => ⟨fun _ _ _ _ _ _ _ q => (by cases q), k, .done⟩
  | raise => exact fun _ k => ⟨fun _ _ _ _ _ _ _ q => (by cases q), k, .raise⟩
  | again hq _ ih => exact fun hs k => (fun ⟨x, y, z⟩ => ⟨x, y, .again hq z⟩) (ih hs k)
  | rule _ ih => exact fun hs k => (fun ⟨x, y, z⟩ => ⟨x, y, .rule z⟩) (ih hs k)
  | «at» _ ih => exact fun hs k => (fun ⟨x, y, z⟩ => ⟨x, y, .at z⟩) (ih hs k)
  | load hl _ ih => exact fun hs k => (fun ⟨x, y, z⟩ => ⟨x, y, .load (s := backS o _) hl z⟩) (ih hs k)
  | update hl _ ih => exact fun hs k => (fun ⟨x, y, z⟩ => ⟨x, y, .update (s := backS o _) hl z⟩) (ih hs k)
  | loadIfAlive _ ih => exact fun hs k => (fun ⟨x, y, z⟩ => ⟨x, y, .loadIfAlive (s := backS o _) z⟩) (ih hs k)
  | point _ ih => exact fun hs k => (fun ⟨x, y, z⟩ => ⟨x, y, .point z⟩) (ih hs k)
  | alloc _ ih => exact fun hs k => (fun ⟨x, y, z⟩ => ⟨x, y, .alloc (s := backS o _) z⟩) (ih hs k)
  | fresh _ ih => exact fun hs k => (fun ⟨x, y, z⟩ => ⟨x, y, .fresh (s := backS o _) z⟩) (ih hs k)
  | ask _ ih => exact fun hs k => (fun ⟨x, y, z⟩ => ⟨x, y, .ask z⟩) (ih hs k)
  | choose hn _ ih => exact fun hs k => (fun ⟨x, y, z⟩ => ⟨x, y, .choose (s := backS o _) hn z⟩) (ih hs k)
  | os _ ih => exact fun hs k => (fun ⟨x, y, z⟩ => ⟨x, y, .os (s := backS o _) z⟩) (ih hs k)
  | handled _ ih => exact fun hs k => (fun ⟨x, y, z⟩ => ⟨x, y, .handled z⟩) (ih hs k)
  | stack _ ih => exact fun hs k => (fun ⟨x, y, z⟩ => ⟨x, y, .stack z⟩) (ih hs k)
  | thread _ ih => exact fun hs k => (fun ⟨x, y, z⟩ => ⟨x, y, .thread z⟩) (ih hs k)
  | genState hst _ ih => exact fun hs k => (fun ⟨x, y, z⟩ => ⟨x, y, genState_back k hst z⟩) (ih hs k)
  | newGen _ ih => exact fun hs k => (fun ⟨x, y, z⟩ => ⟨x, y, newGen_back k z⟩) (ih hs (k.push _).1)
  | call _ _ ih1 ih2 =>
    intro hs k
    obtain ⟨_, k1, r1⟩ := ih1 rfl k
    obtain ⟨x, y, z⟩ := ih2 hs k1
    exact ⟨x, y, .call r1 z⟩
  | callSusp _ ih =>
    intro hs k
    obtain ⟨x, y, z⟩ := ih rfl k
    refine ⟨fun v g l k c p fs q => ?_, y, .callSusp z⟩
    cases q
    exact split_app (x _ _ _ _ _ _ _ rfl) rfl
  | yield => exact fun _ k => ⟨fun _ _ _ _ _ _ _ q => (by cases q; rfl), k, .yield⟩
  | resumeFresh hst _ hq _ ih1 ih2 =>
    intro hs k
    have ng := k.no hst rfl
    obtain ⟨k1, q1⟩ := k.put (x := .running) ng fun _ _ _ _ _ _ z => by cases z
    obtain ⟨x1, k2, r1⟩ := ih1 rfl k1
    rw [put_eq o q1] at r1
    obtain ⟨k3, q3⟩ := k2.put ng x1.gen
    obtain ⟨x, y, z⟩ := ih2 hs k3
    rw [put_eq o q3] at z
    exact ⟨x, y, .resumeFresh (s := backS o _) ((back_none ng).trans hst) r1 hq z⟩
  | resumeSuspended hst hr hq _ ih1 ih2 =>
    intro hs k
    have ng := k.noS hst hr
    have hf := k.rest _ _ _ _ _ _ _ hst ng
    obtain ⟨k1, q1⟩ := k.put (x := .running) ng fun _ _ _ _ _ _ z => by cases z
    obtain ⟨x1, k2, r1⟩ := ih1 hf k1
    rw [put_eq o q1] at r1
    obtain ⟨k3, q3⟩ := k2.put ng x1.gen
    obtain ⟨x, y, z⟩ := ih2 hs k3
    rw [put_eq o q3] at z
    exact ⟨x, y, .resumeSuspended (s := backS o _) ((back_none ng).trans hst) r1 hq z⟩
  | resumeJustStarted hst hv _ ih =>
    exact fun hs k => (fun ⟨x, y, z⟩ => ⟨x, y, .resumeJustStarted (s := backS o _) ((back_none (k.no hst rfl)).trans hst) hv z⟩) (ih hs k)
  | resumeThrowFresh hst _ ih =>
    intro hs k
    have ng := k.no hst rfl
    obtain ⟨k1, q1⟩ := k.put (x := .finished) ng fun _ _ _ _ _ _ z => by cases z
    obtain ⟨x, y, z⟩ := ih hs k1
    rw [put_eq o q1] at z
    exact ⟨x, y, .resumeThrowFresh (s := backS o _) ((back_none ng).trans hst) z⟩
  | resumeRunning hst _ ih => exact fun hs k => (fun ⟨x, y, z⟩ => ⟨x, y, .resumeRunning (s := backS o _) ((back_none (k.no hst rfl)).trans hst) z⟩) (ih hs k)
  | resumeFinished hst _ ih => exact fun hs k => (fun ⟨x, y, z⟩ => ⟨x, y, .resumeFinished (s := backS o _) ((back_none (k.no hst rfl)).trans hst) z⟩) (ih hs k)
  | segRet _ _ ih1 ih2 =>
    intro hs k
    obtain ⟨_, k1, r1⟩ := ih1 rfl k
    have hs' := hs
    rw [PySem.splitAtGen_ret, Option.map_eq_none_iff] at hs'
    obtain ⟨x, y, z⟩ := ih2 hs' k1
    exact ⟨x, y, .segRet r1 z⟩
  | segGen => exact fun hs => (by cases hs)
  | segSuspOut hsp _ ih =>
    intro hs k
    obtain ⟨x, y, z⟩ := ih rfl k
    refine ⟨fun v g l k c p fs q => ?_, y, .segSuspOut hsp z⟩
    cases q
    exact split_app (x _ _ _ _ _ _ _ rfl) hs
  | segSuspGen hsp => exact fun hs => (by rw [hs] at hsp; cases hsp)
theorem wakes_back {M : Model} {o : Nat → Option GenState} {Γ : Ctx} {p : Pos} {g : Nat} {r : Resume} {s s' : Shared} {res : GenResult} (h : Wakes M Γ p g r s res s') (k : Ok o s.gens) : Ok o s'.gens ∧ Wakes M Γ p g r (backS o s) res (backS o s') := by
  have at_ : ∀ {x}, s.gens[g]? = some x → o g = none → (backS o s).gens[g]? = some x := fun e n => (back_none n).trans e
  unfold Wakes at h
  split at h
  · exact h.elim
  · rename_i c hst
    have ng := k.no hst rfl
    split at h
    · obtain ⟨e₁, s₁, hr, hq, rfl, rfl⟩ := h
      obtain ⟨k1, q1⟩ := k.put (x := .running) ng fun _ _ _ _ _ _ z => by cases z
      obtain ⟨x1, k2, r1⟩ := runs_back hr rfl k1
      rw [put_eq o q1] at r1
      obtain ⟨k3, q3⟩ := k2.put (x := e₁.genState) ng x1.gen
      refine ⟨k3, ?_⟩
      unfold Wakes
      rw [at_ hst ng, put_eq o q3]
      exact ⟨e₁, _, r1, hq, rfl, rfl⟩
    · obtain ⟨rfl, rfl⟩ := h
      rename_i hv
      refine ⟨k, ?_⟩
      unfold Wakes
      rw [at_ hst ng]
      dsimp only
      split
      · rename_i q; cases q; exact (hv rfl).elim
      · exact ⟨rfl, rfl⟩
      · rename_i q; cases q
    · obtain ⟨rfl, rfl⟩ := h
      obtain ⟨k1, q1⟩ := k.put (x := .finished) ng fun _ _ _ _ _ _ z => by cases z
      refine ⟨k1, ?_⟩
      unfold Wakes
      rw [at_ hst ng, put_eq o q1]
      exact ⟨rfl, rfl⟩
  · rename_i k0 l0 c0 p0 fs0 cl0 hst
    obtain ⟨e₁, s₁, hr, hq, rfl, rfl⟩ := h
    have ng := k.noS hst hr
    have hf := k.rest g _ _ _ _ _ _ hst ng
    obtain ⟨k1, q1⟩ := k.put (x := .running) ng fun _ _ _ _ _ _ z => by cases z
    obtain ⟨x1, k2, r1⟩ := runs_back hr hf k1
    rw [put_eq o q1] at r1
    obtain ⟨k3, q3⟩ := k2.put (x := e₁.genState) ng x1.gen
    refine ⟨k3, ?_⟩
    unfold Wakes
    rw [at_ hst ng, put_eq o q3]
    exact ⟨e₁, _, r1, hq, rfl, rfl⟩
  · rename_i hst
    have ng := k.no hst rfl
    obtain ⟨rfl, rfl⟩ := h
    refine ⟨k, ?_⟩
    unfold Wakes
    rw [at_ hst ng]
    exact ⟨rfl, rfl⟩
  · rename_i hst
    have ng := k.no hst rfl
    obtain ⟨rfl, rfl⟩ := h
    refine ⟨k, ?_⟩
    unfold Wakes
    rw [at_ hst ng]
    exact ⟨rfl, rfl⟩
theorem wp_back {α : Type} (M : Model) (Γ : Ctx) (o : Nat → Option GenState) (t : Sem α) : ∀ (Q : α → Pos → Shared → Prop) (E : Value → Pos → Shared → Prop) (p : Pos) (s : Shared), Ok o s.gens → Sem.wp M Γ t Q E p s →
    Sem.wp M Γ t (fun a p' s' => ∃ s1, Q a p' s1 ∧ Ok o s1.gens ∧ s' = backS o s1) (fun e p' s' => ∃ s1, E e p' s1 ∧ Ok o s1.gens ∧ s' = backS o s1) p (backS o s) := by
  induction t with
  | pure a => exact fun Q E p s k h => ⟨s, h, k, rfl⟩
  | raise e => exact fun Q E p s k h => ⟨s, h, k, rfl⟩
  | unsupported _ => exact fun Q E p s k h => h
  | finish _ => exact fun Q E p s k h => h
  | rule _ k' ih => exact fun Q E p s k h => ih () Q E p s k h
  | «at» p' k' ih => exact fun Q E p s k h => ih () Q E p' s k h
  | load a _ k' ih => exact fun Q E p s k ⟨x, hx, h⟩ => ⟨x, hx, ih x Q E p s k h⟩
  | update a _ f k' ih => exact fun Q E p s k h => ⟨h.1, ih () Q E p { s with heap := s.heap.update a f } k h.2⟩
  | loadIfAlive a k' ih => exact fun Q E p s k h => ih _ Q E p s k h
  | point _ k' ih => exact fun Q E p s k h => ih () Q E p s k h
  | register _ _ => exact fun Q E p s k h => h
  | alloc x k' ih => exact fun Q E p s k h => ih _ Q E p { s with heap := s.heap.push x } k h
  | fresh k' ih => exact fun Q E p s k h => ih _ Q E p { s with toks := s.toks + 1 } k h
  | ask k' ih => exact fun Q E p s k h => ih _ Q E p s k h
  | choose src m k' ih => exact fun Q E p s k h => ⟨h.1, ih _ Q E p { s with drawn := s.drawn.bump src } k h.2⟩
  | os q _ k' ih => exact fun Q E p s k h => ih _ Q E p { s with os := (Os.step s.os q).1 } k h
  | call c hd _ _ k' ih =>
    intro Q E p s k ⟨r, s1, hr, h⟩
    obtain ⟨_, k1, r1⟩ := runs_back hr rfl k
    exact ⟨r, backS o s1, r1, ih r Q E p s1 k1 h⟩
  | handled own k' ih => exact fun Q E p s k h => ih _ Q E p s k h
  | genState g k' ih =>
    intro Q E p s k ⟨st, hst, h⟩
    cases q : o g with
    | none => exact ⟨st, (back_none q).trans hst, ih _ Q E p s k h⟩
    | some w =>
      obtain ⟨_, e1⟩ := k.deafs g w q
      rw [hst] at e1
      cases e1
      rw [deaf_seen] at h
      refine ⟨w, ?_, ih _ Q E p s k h⟩
      show (back o s.gens)[g]? = some w
      rw [back_at, hst, q]
      rfl
  | newGen c k' ih =>
    intro Q E p s k h
    obtain ⟨k1, k2⟩ := k.push c
    have z := ih _ Q E p { s with gens := s.gens.push (.fresh c) } k1 h
    have e1 : backS o { s with gens := s.gens.push (.fresh c) } = { backS o s with gens := (backS o s).gens.push (.fresh c) } := by
      show { s with gens := back o (s.gens.push (.fresh c)) } = ({ s with gens := (back o s.gens).push (.fresh c) } : Shared)
      rw [k2]
    rw [e1] at z
    show Sem.wp _ _ (k' (back o s.gens).size) _ _ _ _
    rw [back_size]
    exact z
  | resume g r _ k' ih =>
    intro Q E p s k ⟨res, s1, hw, h⟩
    obtain ⟨k1, w1⟩ := wakes_back hw k
    exact ⟨res, backS o s1, w1, ih res Q E p s1 k1 h⟩
  | yield _ _ _ _ => exact fun Q E p s k h => h
  | stack k' ih => exact fun Q E p s k h => ih _ Q E p s k h
  | fork _ _ => exact fun Q E p s k h => h
  | thread k' ih => exact fun Q E p s k h => ih _ Q E p s k h
  | await _ _ _ _ _ => exact fun Q E p s k h => h
theorem hush_ok (s : Shared) : Ok (sus s.gens) (hush s).gens := by
  refine ⟨fun i x h => ?_, fun i k l c p fs cl h n => ?_⟩
  · unfold sus at h
    obtain ⟨h1, h2⟩ := Option.filter_eq_some_iff.mp h
    refine ⟨h2, ?_⟩
    show (s.gens.map deaf)[i]? = _
    rw [Array.getElem?_map, h1]
    rfl
  · have h : (s.gens.map deaf)[i]? = _ := h
    rw [Array.getElem?_map] at h
    obtain ⟨y, h1, h2⟩ := Option.map_eq_some_iff.mp h
    cases y with
    | suspended k9 l9 c9 p9 fs9 cl9 =>
      unfold sus at n
      rw [h1] at n
      cases n
    | _ => cases h2
theorem back_hush (s : Shared) : backS (sus s.gens) (hush s) = s := by
  have : back (sus s.gens) (s.gens.map deaf) = s.gens := Array.ext_getElem? fun i => by
    rw [back_at, Array.getElem?_map]
    unfold sus
    cases h : s.gens[i]? with
    | none => rfl
    | some x => cases x <;> rfl
  show { s with gens := back (sus s.gens) (s.gens.map deaf) } = s
  rw [this]
theorem hush_bare {s : Shared} (h : PyProof.Rows.AllBare s.gens) : PyProof.Rows.AllBare (hush s).gens := fun y hy => by
  obtain ⟨x, hx, rfl⟩ := Array.mem_map.mp hy
  rw [deaf_bare]
  exact h x hx
/-- a piece of code that does what is wished where the sleepers are deaf does it where they are not, and leaves them as they are -/
theorem wpAny_hush {α : Type} {M : Model} {A : Around} {t : Sem α} {Q : α → Shared → Prop} {E : Value → Shared → Prop} {s : Shared}
    (h : wpAny M A t (fun a s1 => ∀ s2, s2.heap = s1.heap → s2.os = s1.os → (PyProof.Rows.AllBare s1.gens → PyProof.Rows.AllBare s2.gens) → (∀ (i : Nat) (x : GenState), s.gens[i]? = some x → isSus x = true → s2.gens[i]? = some x) → Q a s2)
      (fun e s1 => ∀ s2, s2.heap = s1.heap → s2.os = s1.os → (PyProof.Rows.AllBare s1.gens → PyProof.Rows.AllBare s2.gens) → (∀ (i : Nat) (x : GenState), s.gens[i]? = some x → isSus x = true → s2.gens[i]? = some x) → E e s2) (hush s)) : wpAny M A t Q E s := by
  intro Γ p hΓ
  have w := wp_back M Γ (sus s.gens) t _ _ p (hush s) (hush_ok s) (h Γ p hΓ)
  rw [back_hush] at w
  have fin : ∀ s1, Ok (sus s.gens) s1.gens → (PyProof.Rows.AllBare s1.gens → PyProof.Rows.AllBare (backS (sus s.gens) s1).gens) ∧ (∀ (i : Nat) (x : GenState), s.gens[i]? = some x → isSus x = true → (backS (sus s.gens) s1).gens[i]? = some x) := fun s1 k => by
    refine ⟨fun hb y hy => ?_, fun i x e1 e2 => ?_⟩
    · obtain ⟨i, hi⟩ := Array.mem_iff_getElem?.mp hy
      have hi : (back (sus s.gens) s1.gens)[i]? = some y := hi
      rw [back_at] at hi
      obtain ⟨z, z1, z2⟩ := Option.map_eq_some_iff.mp hi
      cases q : sus s.gens i with
      | none =>
        rw [q] at z2
        rw [← z2]
        exact hb z (Array.mem_of_getElem? z1)
      | some w =>
        rw [q] at z2
        obtain ⟨_, d2⟩ := k.deafs i w q
        have : y = w := z2.symm
        rw [this, ← deaf_bare]
        exact hb _ (Array.mem_of_getElem? d2)
    · have q : sus s.gens i = some x := by
        unfold sus
        rw [e1]
        exact Option.filter_eq_some_iff.mpr ⟨rfl, e2⟩
      obtain ⟨_, d2⟩ := k.deafs i x q
      show (back (sus s.gens) s1.gens)[i]? = some x
      rw [back_at, d2, q]
      rfl
  exact Sem.wp_mono M Γ t (fun a p' s' ⟨s1, q, k, e⟩ => by rw [e]; exact q _ rfl rfl (fin s1 k).1 (fin s1 k).2) (fun a p' s' ⟨s1, q, k, e⟩ => by rw [e]; exact q _ rfl rfl (fin s1 k).1 (fin s1 k).2) p s w
end Gsl
/-! Mi: a run up to the next yield -/
namespace Gsl
open PySem
/-- the run ends, or hands out a value: Φ tells of it -/
def Go (M : Model) (A : Around) (Φ : End → Shared → Prop) (c : Code) (t : Sem PySem.Fin) (fs : List Frame) (s : Shared) : Prop := ∀ Γ p, Γ.code = c → Γ.Woken A → ∃ e s', Runs M Γ p t fs s e s' ∧ Φ e s'
section
variable {M : Model} {A : Around} {Φ : End → Shared → Prop} {c : Code} {fs : List Frame} {s : Shared}
theorem go_wrap {α : Type} {m : Sem α} {K : α → Sem PySem.Fin} {J : Value → Sem PySem.Fin} {gd : Bool → Bool} {lv : List Value → List Value}
    (h : wpAny M (A.over c fs) m (fun a s' => Go M A Φ c (K a) fs s') (fun x s' => Go M A Φ c (J x) fs s') s) : Go M A Φ c (m.wrap K J gd lv) fs s := by
  intro Γ p e hΓ
  subst e
  exact runs_wrap_of_wp (Φ := Φ) K J gd lv m (h (Γ.over fs) p (hΓ.over fs)) (fun a q s' z => z Γ q rfl hΓ) (fun x q s' z => z Γ q rfl hΓ)
theorem go_at {q : Pos} {k : Unit → Sem PySem.Fin} (h : Go M A Φ c (k ()) fs s) : Go M A Φ c (.at q k) fs s := go_wrap (m := standAt q) (K := k) (J := .raise) (gd := id) (lv := id) (wpAny_standAt h)
theorem go_point {l : List Value} {k : Unit → Sem PySem.Fin} (h : Go M A Φ c (k ()) fs s) : Go M A Φ c (.point l k) fs s := go_wrap (m := point) (K := k) (J := .raise) (gd := id) (lv := fun _ => l) (wpAny_point h)
theorem go_call {d : Code} {hd : Option Value} {g : Bool} {l : List Value} {k : Result → Sem PySem.Fin} (h : ∀ p, Go M A Φ d (M.den d) (.ret k hd g l c p [] :: fs) s) : Go M A Φ c (.call d hd g l k) fs s := by
  intro Γ p e hΓ
  subst e
  obtain ⟨e, s', r, z⟩ := h p (Γ.goto d) p rfl (hΓ.goto d)
  exact ⟨e, s', runs_call_seg r, z⟩
theorem go_leaf {k : Result → Sem PySem.Fin} {hd : Option Value} {g : Bool} {l kp : List Value} {c₁ : Code} {p₁ : Pos} (r : Result) (h : Go M A Φ c₁ (k r) fs s) : Go M A Φ c (leafOf r) (.ret k hd g l c₁ p₁ kp :: fs) s := by
  intro Γ p e hΓ
  subst e
  obtain ⟨e, s', q, z⟩ := h (Γ.goto c₁) p₁ rfl (hΓ.goto c₁)
  exact ⟨e, s', Runs.pop r q, z⟩
theorem go_again {d : Code} (hq : d.quiet = true) (h : Go M A Φ d (M.den d) fs s) : Go M A Φ c (.pure (.again d)) fs s := by
  intro Γ p e hΓ
  subst e
  obtain ⟨e, s', q, z⟩ := h (Γ.goto d) p rfl (hΓ.goto d)
  exact ⟨e, s', Runs.head (c₁ := d) (fun _ _ w => .again hq w) q, z⟩
theorem go_end (r : Result) (h : Φ (.ret r) s) : Go M A Φ c (leafOf r) [] s := by
  intro Γ p e _
  subst e
  exact ⟨.ret r, s, Runs.leaf r, h⟩
theorem go_yield {v : Value} {g : Bool} {l : List Value} {k : Resume → Sem PySem.Fin} (hfs : splitAtGen fs = none) (h : ∀ p, Φ (.susp v g l k c p fs) s) : Go M A Φ c (.yield v g l k) fs s := by
  intro Γ p e _
  subst e
  exact ⟨_, s, Runs.yield' fs hfs, h p⟩
theorem go_iff {t t' : Sem PySem.Fin} (e : t = t') (h : Go M A Φ c t' fs s) : Go M A Φ c t fs s := by rw [e]; exact h
end
/-! ### statements -/
section
variable {prog : Program} {w : World} {A : Around} {Φ : End → Shared → Prop} {c : Code} {fs : List Frame} {s : Shared} {env : Env} {K : Flow → Sem PySem.Fin} {J : Value → Sem PySem.Fin} {gd : Bool → Bool} {lv : List Value → List Value}
/-- what follows a statement within a block -/
def thenK (rest : List Stmt) (env : Env) (K : Flow → Sem PySem.Fin) (J : Value → Sem PySem.Fin) (gd : Bool → Bool) (lv : List Value → List Value) : Flow → Sem PySem.Fin
  | .next => (execs rest env).wrap K J gd lv
  | f => K f
theorem go_cons {M : Model} {st : Stmt} {rest : List Stmt} (h : Go M A Φ c ((exec st env).wrap (thenK rest env K J gd lv) J gd lv) fs s) : Go M A Φ c ((execs (st :: rest) env).wrap K J gd lv) fs s := by
  rw [execs_cons_wrap]
  refine go_iff (Sem.wrap_congr _ _ _ (fun f => ?_) fun _ => rfl) h
  cases f <;> rfl
theorem go_nil {M : Model} (h : Go M A Φ c (K .next) fs s) : Go M A Φ c ((execs [] env).wrap K J gd lv) fs s := h
/-- behind a value that was handed out -/
def yK (e : Expr) (yp pos : Pos) (K : Flow → Sem PySem.Fin) (J : Value → Sem PySem.Fin) (gd : Bool → Bool) (lv : List Value → List Value) : Resume → Sem PySem.Fin := fun r =>
  match r with
  | .send x => (dropValue (.Yield (some e) yp) pos x).wrap K J gd lv
  | .throw x => J x
theorem Go.mono {M : Model} {Ψ : End → Shared → Prop} {t : Sem PySem.Fin} (h : Go M A Φ c t fs s) (k : ∀ e s, Φ e s → Ψ e s) : Go M A Ψ c t fs s := fun Γ p e hΓ => by
  obtain ⟨e, s', r, z⟩ := h Γ p e hΓ
  exact ⟨e, s', r, k _ _ z⟩
end
end Gsl
/-! Mi: statements of a generator; next -/
namespace Gsl
open PySem
section
variable {M : Model} {A : Around} {Φ : End → Shared → Prop} {c : Code} {fs : List Frame} {s : Shared} {env : Env} {K : Flow → Sem PySem.Fin} {J : Value → Sem PySem.Fin} {gd : Bool → Bool} {lv : List Value → List Value}
/-- yield e -/
theorem go_Yield {e : Expr} {yp pos : Pos} (hco : env.scope.isCoroutine = false) (hi : interactive env = false) (hgd : gd false = false) (hfs : splitAtGen fs = none)
    (h : wpAny M (A.over c fs) (eval e env) (fun v s' => ∀ l k p, k (.send .none) = K .next → Φ (.susp v false l k c p fs) s') (fun x s' => Go M A Φ c (J x) fs s') s) :
    Go M A Φ c ((exec (.Expr (.Yield (some e) yp) pos) env).wrap K J gd lv) fs s := by
  have hy : ∀ v, yieldOut env v = yieldValue v := fun v => by unfold yieldOut; rw [hco]; rfl
  rw [exec_Expr env _ pos hi rfl]
  refine go_at ?_
  show Go M A Φ c (((eval e env >>= fun v => (standAt yp >>= fun _ => yieldOut env v)) >>= fun x => dropValue (.Yield (some e) yp) pos x).wrap K J gd lv) fs s
  simp only [hy]
  rw [Sem.bind_eq_wrap', Sem.bind_eq_wrap', Sem.wrap_wrap, Sem.wrap_wrap]
  refine go_wrap (wpAny_mono h (fun v s' q => ?_) fun _ _ z => z)
  refine go_at (go_yield hfs fun p => ?_)
  rw [show (fun g => gd (id g)) false = false from hgd]
  exact q _ _ p rfl
/-- a while: its code runs over a frame that goes on with K -/
theorem go_While {test : Expr} {body orelse : List Stmt} {pos : Pos} (K : Flow → Sem PySem.Fin) (J : Value → Sem PySem.Fin) (gd : Bool → Bool) (lv : List Value → List Value) (c : Code) : ∃ kf : Result → Sem PySem.Fin, (∀ f, kf (.ok f) = K f) ∧ ∀ {A : Around} {Φ : End → Shared → Prop} {s : Shared},
    (∀ p, Go M A Φ (.whileLoop test body orelse env) (M.den (.whileLoop test body orelse env)) (.ret kf none (gd false) (lv []) c p [] :: fs) s) → Go M A Φ c ((exec (.While test body orelse pos) env).wrap K J gd lv) fs s :=
  ⟨_, fun f => rfl, fun h => go_at (go_call h)⟩
end
section
variable {prog : Program} {w : World} {A : Around} {Φ : End → Shared → Prop} {fs : List Frame} {s : Shared} {env : Env}
/-- behind the body of a while -/
def againK (d : Code) : Flow → Sem PySem.Fin
  | .brk => .pure (.done .next)
  | .ret v => .pure (.done (.ret v))
  | _ => .pure (.again d)
def noted (env : Env) (x : Value) : Sem PySem.Fin := (do noteFrame x env; theTreesLotGoes x : Sem Unit).wrap (fun _ => .raise x) .raise id id
theorem go_whileLoop {test : Expr} {body orelse : List Stmt} (h : wpAny (model prog w) (A.over (.whileLoop test body orelse env) fs) (isTrue test env (eval test env)) (fun b s' =>
        if b = true then Go (model prog w) A Φ (.whileLoop test body orelse env) ((execs body env).wrap (againK (.whileLoop test body orelse env)) (noted env) id id) fs s'
        else Go (model prog w) A Φ (.whileLoop test body orelse env) ((execs orelse env).wrap (fun f => .pure (.done f)) (noted env) id id) fs s')
      (fun x s' => Go (model prog w) A Φ (.whileLoop test body orelse env) (noted env x) fs s') s) :
    Go (model prog w) A Φ (.whileLoop test body orelse env) ((model prog w).den (.whileLoop test body orelse env)) fs s := by
  show Go _ A Φ _ ((whileTurn test body orelse env).onRaise fun x => do noteFrame x env; theTreesLotGoes x) fs s
  have hN : ∀ e, (do noteFrame e env; theTreesLotGoes e : Sem Unit).bind (fun _ => Sem.raise e) = noted env e := fun e => by
    unfold noted
    rw [Sem.bind_eq_wrap]
  unfold whileTurn
  rw [Sem.onRaise_eq_wrap, Sem.bind_eq_wrap', Sem.wrap_wrap]
  refine go_wrap (wpAny_mono h (fun b s' hb => ?_) fun x s' hx => ?_)
  · cases b with
    | true =>
      rw [if_pos rfl] at hb
      show Go _ A Φ _ (Sem.wrap _ _ _ _ (if true = true then _ else _)) fs s'
      rw [if_pos rfl, Sem.bind_eq_wrap', Sem.wrap_wrap]
      refine go_iff (Sem.wrap_congr _ _ _ (fun f => ?_) (fun e => ?_)) hb
      · cases f <;> rfl
      · exact hN e
    | false =>
      rw [if_neg Bool.false_ne_true] at hb
      show Go _ A Φ _ (Sem.wrap _ _ _ _ (if false = true then _ else _)) fs s'
      rw [if_neg Bool.false_ne_true, Sem.bind_eq_wrap', Sem.wrap_wrap]
      refine go_iff (Sem.wrap_congr _ _ _ (fun f => ?_) (fun e => ?_)) hb
      · rfl
      · exact hN e
  · exact go_iff (hN x) hx
/-- the body of a def: what it ends with -/
def doneK : Flow → Sem PySem.Fin
  | .ret v => .pure (.done (.ret v))
  | _ => .pure (.done (.ret .none))
theorem go_func {body : List Stmt} (h : Go (model prog w) A Φ (.func body env) ((execs body env).wrap doneK (fun e => (leaving env e).wrap (fun _ => .raise e) .raise id id) id id) fs s) :
    Go (model prog w) A Φ (.func body env) ((model prog w).den (.func body env)) fs s := by
  show Go _ A Φ _ (.point [] fun _ => ((execs body env).onRaise (leaving env)) >>= _) fs s
  refine go_point ?_
  rw [Sem.onRaise_eq_wrap, Sem.bind_eq_wrap', Sem.wrap_wrap]
  refine go_iff (Sem.wrap_congr _ _ _ (fun f => ?_) fun e => ?_) h
  · cases f <;> rfl
  · show Sem.wrap _ _ _ _ (Sem.bind _ _) = _
    rw [Sem.bind_eq_wrap, Sem.wrap_wrap]
    rfl
theorem go_app {M : Model} {c : Code} {K : Flow → Sem PySem.Fin} {J : Value → Sem PySem.Fin} {gd : Bool → Bool} {lv : List Value → List Value} (b : List Stmt) : ∀ (a : List Stmt), ((execs (a ++ b) env).wrap K J gd lv) = ((execs a env).wrap (thenK b env K J gd lv) J gd lv)
  | [] => rfl
  | st :: a => by
    rw [List.cons_append, execs_cons_wrap, execs_cons_wrap]
    refine Sem.wrap_congr _ _ _ (fun f => ?_) fun _ => rfl
    cases f with
    | next => exact go_app (M := M) (c := c) b a
    | _ => rfl
end
/-! ### next -/
/-- woken, it goes -/
def Wk (M : Model) (A : Around) (Φ : End → Shared → Prop) (s : Shared) : GenState → Prop
  | .fresh c => Go M A Φ c (M.den c) [] s
  | .suspended k _ c p fs _ => ∀ Γ, Γ.code = c → Γ.Woken A → ∃ e s', Runs M Γ p (k (.send .none)) fs s e s' ∧ Φ e s'
  | _ => False
theorem wpAny_wake {M : Model} {A : Around} {Φ : End → Shared → Prop} {E : Value → Shared → Prop} {s : Shared} {g : Nat} {gs : GenState} {l : List Value} {α : Type} {k : GenResult → Sem α} {Q : α → Shared → Prop} (hg : s.gens[g]? = some gs)
    (hgo : Wk M A Φ (s.setGen g .running) gs) (hk : ∀ e s₁, Φ e s₁ → e.quiet = true ∧ wpAny M A (k e.result) Q E (s₁.setGen g e.genState)) : wpAny M A (.resume g (.send .none) l k) Q E s := by
  intro Γ p hΓ
  rw [Sem.wp_resume]
  cases gs with
  | fresh c =>
    obtain ⟨e, s₁, r, z⟩ := hgo (Γ.wake c p) p rfl (hΓ.wake c p)
    obtain ⟨z1, z2⟩ := hk e s₁ z
    exact ⟨_, _, by unfold Wakes; rw [hg]; exact ⟨e, s₁, r, z1, rfl, rfl⟩, z2 Γ p hΓ⟩
  | suspended k₀ l₀ c₀ p₀ fs₀ cl =>
    obtain ⟨e, s₁, r, z⟩ := hgo (Γ.wake c₀ p) rfl (hΓ.wake c₀ p)
    obtain ⟨z1, z2⟩ := hk e s₁ z
    exact ⟨_, _, by unfold Wakes; rw [hg]; exact ⟨e, s₁, r, z1, rfl, rfl⟩, z2 Γ p hΓ⟩
  | running => exact hgo.elim
  | finished => exact hgo.elim
section
variable {P : Program} {w : World} {A : Around} {E : Value → Shared → Prop} {s : Shared}
open L2 PyProof.Rows GenW in
theorem next_go {a : Addr} {g : Nat} {gs : GenState} {Φ : End → Shared → Prop} {Q : Option Value → Shared → Prop} (hh : A.handled = none) (hl : s.heap.NoLimit) (hd : A.depth < recursionLimit) (hg : s.heap.IsGen a g) (hgs : s.gens[g]? = some gs)
    (hgo : Wk (model P w) A.in1 Φ (s.setGen g .running) gs)
    (hY : ∀ v l k c p fs g₀ s₁, Φ (.susp v g₀ l k c p fs) s₁ → (End.susp v g₀ l k c p fs).quiet = true ∧ Q (some v) (s₁.setGen g (End.susp v g₀ l k c p fs).genState))
    (hP : ∀ r s₁, Φ (.ret r) s₁ → (r = .ok (.ret .none) ∨ r = .ok .next) ∧ ∀ h', (∀ b o, s₁.heap.get? b = some o → h'.get? b = some o) → Q none { s₁.setGen g .finished with heap := h' }) :
    wpAny (model P w) A (pyNext (.ref a)) Q E s := by
  unfold pyNext
  refine wpAny_bind (wpAny_attempt (wpAny_callSpecial?_slot (name := Str.ofString "__next__") hg.typeIs slot_gen_next (wpAny_call_entry slot_gen_next hg.typeIs entry_gen_next ?_ (args_gen_next _))))
  show wpAny (model P w) A.in1 (Builtin.Generator.genWake (.ref a) (.send .none)) _ _ s
  unfold Builtin.Generator.genWake
  refine wpAny_bind (wpAny_holding (wpAny_genNumber hg (wpAny_bind (wpAny_genState hgs ?_))))
  cases gs with
  | running => exact hgo.elim
  | finished => exact hgo.elim
  | _ =>
    refine wpAny_bind (wpAny_roomToWake hl hd ?_)
    show wpAny (model P w) A.in1 (.resume g (.send .none) [] _) _ _ s
    refine wpAny_wake hgs hgo fun e s₁ z => ?_
    cases e with
    | susp v g₀ l k c p fs =>
      obtain ⟨z1, z2⟩ := hY v l k c p fs g₀ s₁ z
      exact ⟨z1, wpAny_pure ⟨v, rfl, wpAny_pure z2⟩⟩
    | ret r =>
      obtain ⟨hr, z2⟩ := hP r s₁ z
      refine ⟨rfl, ?_⟩
      have hres : End.result (.ret r) = .returned .none := by rcases hr with hr | hr <;> (rw [hr]; rfl)
      rw [hres]
      show wpAny (model P w) A.in1 (newExc (.type "StopIteration") [] >>= _) _ _ _
      refine wpAny_bind ?_
      simp only [newExc, newTuple]
      refine wpAny_bind (wpAny_newObj_type (wpAny_bind (m := firstArgMember _ _) (wpAny_of_eq (a := Value.none) (by first | rfl | (simp only [firstArgMember]; rfl)) (wpAny_newObj_type ?_ (by size_fits)))) (by size_fits))
      simp only [raiseNew]
      refine wpAny_bind (wpAny_bind (wpAny_handled ?_))
      rw [show A.in1.handled = none from hh]
      refine wpAny_throw (wpAny_bind (wpAny_isInstance (T := "StopIteration") (b := true) ⟨_, Heap.get?_push_size _ rfl, rfl⟩ isSubtype_stop (wpAny_pure ?_)))
      exact z2 _ fun b o hb => Heap.get?_push_of_some _ (Heap.get?_push_of_some _ hb)
end
end Gsl
/-! Mi: states that differ in their generators alone; a heap cut short; pieces of code as the machine runs them -/
namespace Gsl
open PySem PySem.Spec PyProof.Rows L2
/-! ### the heap below an address -/
def cut (h : Heap) (L : Nat) : Heap := ⟨h.objs.extract 0 L, h.life⟩
theorem cut_size {h : Heap} {L : Nat} (k : L ≤ h.objs.size) : (cut h L).objs.size = L := by
  show (h.objs.extract 0 L).size = L
  rw [Array.size_extract]
  omega
theorem cut_get {h : Heap} {L b : Nat} (k : b < L) : (cut h L).get? b = h.get? b := by
  have e : (h.objs.extract 0 L)[b]? = h.objs[b]? := by
    rw [Array.getElem?_extract]
    by_cases q : b < h.objs.size
    · rw [if_pos (by omega)]
      simp
    · rw [if_neg (by omega)]
      exact (Array.getElem?_eq_none (by omega)).symm
  show (match (h.objs.extract 0 L)[b]? with | some ⟨_, _, .freed, _⟩ => none | o => o) = (match h.objs[b]? with | some ⟨_, _, .freed, _⟩ => none | o => o)
  rw [e]
theorem cut_of {h : Heap} {L b : Nat} {o : Obj} (e : (cut h L).get? b = some o) : b < L ∧ h.get? b = some o := by
  have hl : b < L := by
    have q1 : b < (h.objs.extract 0 L).size := Heap.lt_size e
    rw [Array.size_extract] at q1
    omega
  exact ⟨hl, by rw [← cut_get hl]; exact e⟩
/-! ### alike -/
theorem Inv_like {X : Cx} {pins : List (Addr × Obj)} {σ : L2.St} {H : Hp} {s : Shared} (I : Inv X pins σ H s) {s' : Shared} (h : s'.heap = s.heap) (o : s'.os = s.os) (b : AllBare s'.gens) : Inv X pins σ H s' := by
  obtain ⟨heap, gens, drawn, toks, os⟩ := s'
  obtain rfl : heap = s.heap := h
  obtain rfl : os = s.os := o
  exact ⟨I.ok, I.os, b, I.base, I.loc, I.cell, I.free, I.freeC, I.pin, I.hok, I.len⟩
theorem back_bare {o : Nat → Option GenState} {a : Array GenState} (k : Ok o a) (hb : AllBare a) : AllBare (back o a) := fun y hy => by
  obtain ⟨i, hi⟩ := Array.mem_iff_getElem?.mp hy
  rw [back_at] at hi
  obtain ⟨z, z1, z2⟩ := Option.map_eq_some_iff.mp hi
  cases q : o i with
  | none =>
    rw [q] at z2
    rw [← z2]
    exact hb z (Array.mem_of_getElem? z1)
  | some w =>
    rw [q] at z2
    obtain ⟨_, d2⟩ := k.deafs i w q
    have e : y = w := z2.symm
    rw [e, ← deaf_bare]
    exact hb _ (Array.mem_of_getElem? d2)
/-- what is wanted of an exception does not speak of sleepers -/
def KeepsG (X : Cx) : Prop := ∀ e s o, Ok o s.gens → X.xe e s → X.xe e (backS o s)
theorem cx_back {P : Program} {w : World} {outer : List Env} {H : Hp} {s s' : Shared} {E : XK} {u : Value} {o : Nat → Option GenState} (k : Ok o s'.gens) (c : L2.CX P w outer H s E u s') : L2.CX P w outer H s E u (backS o s') := by
  obtain ⟨a, B, H', cls, d, e1, e2, e3, e4, e5, e6, e7, e8⟩ := c
  exact ⟨a, B, H', cls, d, e1, e2, e3, e4, e5, e6, back_bare k e7, e8⟩
theorem keeps_of {X : Cx} {E : XK} (hx : X.xe = fun e s' => wpAny (model X.prog X.w) X.A (leaving X.env e) (fun _ s'' => L2.CX X.prog X.w X.outer X.H_0 X.s_0 E e s'') (fun e' s'' => L2.CX X.prog X.w X.outer X.H_0 X.s_0 E e' s'') s') : KeepsG X := fun e s o k h => by
  rw [hx] at h ⊢
  intro Γ p hΓ
  exact Sem.wp_mono _ Γ _ (fun a p' s' ⟨s1, q, k1, e1⟩ => by rw [e1]; exact cx_back k1 q) (fun a p' s' ⟨s1, q, k1, e1⟩ => by rw [e1]; exact cx_back k1 q) p _ (wp_back _ Γ o _ _ _ p s k (h Γ p hΓ))
theorem hush_run {α : Type} {X : Cx} {pins : List (Addr × Obj)} {σ : L2.St} {H : Hp} {s : Shared} {t : Sem α} {Q : α → Shared → Prop} (kx : KeepsG X) (I : Inv X pins σ H s) (h : ∀ s1, Inv X pins σ H s1 → wpAny (model X.prog X.w) X.A t Q X.xe s1)
    (hQ : ∀ a s1 s2, Q a s1 → s2.heap = s1.heap → s2.os = s1.os → (AllBare s1.gens → AllBare s2.gens) → Q a s2) :
    wpAny (model X.prog X.w) X.A t (fun a s2 => Q a s2 ∧ ∀ (i : Nat) (x : GenState), s.gens[i]? = some x → isSus x = true → s2.gens[i]? = some x) X.xe s := by
  intro Γ p hΓ
  have z := wp_back _ Γ (sus s.gens) t _ _ p (hush s) (hush_ok s) (h (hush s) (Inv_like I rfl rfl (hush_bare I.bare)) Γ p hΓ)
  rw [back_hush] at z
  refine Sem.wp_mono _ Γ _ (fun a p' s' ⟨s1, q, k1, e1⟩ => ?_) (fun a p' s' ⟨s1, q, k1, e1⟩ => by rw [e1]; exact kx _ _ _ k1 q) p _ z
  subst e1
  refine ⟨hQ a s1 _ q rfl rfl (back_bare k1), fun i x e1 e2 => ?_⟩
  have q : sus s.gens i = some x := by
    unfold sus
    rw [e1]
    exact Option.filter_eq_some_iff.mpr ⟨rfl, e2⟩
  obtain ⟨_, d2⟩ := k1.deafs i x q
  show (back (sus s.gens) s1.gens)[i]? = some x
  rw [back_at, d2, q]
  rfl
/-! ### what cannot be -/
theorem wp_false {α : Type} (M : Model) (Γ : PySem.Ctx) (t : Sem α) : ∀ (p : Pos) (s : Shared), Sem.wp M Γ t (fun _ _ _ => False) (fun _ _ _ => False) p s → False := by
  induction t with
  | pure a => exact fun p s h => h
  | raise e => exact fun p s h => h
  | unsupported _ => exact fun p s h => h
  | finish _ => exact fun p s h => h
  | rule _ k' ih => exact fun p s h => ih () _ _ h
  | «at» p' k' ih => exact fun p s h => ih () _ _ h
  | load a _ k' ih => exact fun p s ⟨x, hx, h⟩ => ih x _ _ h
  | update a _ f k' ih => exact fun p s h => ih () _ _ h.2
  | loadIfAlive a k' ih => exact fun p s h => ih _ _ _ h
  | point _ k' ih => exact fun p s h => ih () _ _ h
  | register _ _ => exact fun p s h => h
  | alloc x k' ih => exact fun p s h => ih _ _ _ h
  | fresh k' ih => exact fun p s h => ih _ _ _ h
  | ask k' ih => exact fun p s h => ih _ _ _ h
  | choose src m k' ih => exact fun p s h => ih _ _ _ h.2
  | os q _ k' ih => exact fun p s h => ih _ _ _ h
  | call c hd _ _ k' ih => exact fun p s ⟨r, s1, hr, h⟩ => ih r _ _ h
  | handled own k' ih => exact fun p s h => ih _ _ _ h
  | genState g k' ih => exact fun p s ⟨st, hst, h⟩ => ih _ _ _ h
  | newGen c k' ih => exact fun p s h => ih _ _ _ h
  | resume g r _ k' ih => exact fun p s ⟨res, s1, hw, h⟩ => ih res _ _ h
  | yield _ _ _ _ => exact fun p s h => h
  | stack k' ih => exact fun p s h => ih _ _ _ h
  | fork _ _ => exact fun p s h => h
  | thread k' ih => exact fun p s h => ih _ _ _ h
  | await _ _ _ _ _ => exact fun p s h => h
theorem go_false {α : Type} {M : Model} {A : Around} {Φ : End → Shared → Prop} {c : Code} {fs : List Frame} {s : Shared} {t : Sem α} {u : Sem PySem.Fin} (h : wpAny M (A.over c fs) t (fun _ _ => False) (fun _ _ => False) s) : Go M A Φ c u fs s := by
  intro Γ p e hΓ
  subst e
  exact (wp_false M (Γ.over fs) t p s (h (Γ.over fs) p (hΓ.over fs))).elim
end Gsl
namespace Mi
open PySem PySem.Spec PyProof.Rows L2 Ob StX Gsl
/-! ### pieces of code, by what the machine answers -/
def SRel (K : PySem.W.Frag) (X : Cx) (pins : List (Addr × Obj)) (φ : Ph) (H : Hp) (f : Flow) (s' : Shared) : SR → Prop
  | .nx g1 h1 => f = .next ∧ ∃ σ' φ' H', Inv X pins σ' H' s' ∧ Fr φ φ' H H' ∧ Sim K φ' h1 H' ∧ Rg K φ' H' σ' g1
  | .ct g1 h1 => f = .cont ∧ ∃ σ' φ' H', Inv X pins σ' H' s' ∧ Fr φ φ' H H' ∧ Sim K φ' h1 H' ∧ Rg K φ' H' σ' g1
  | .bk g1 h1 => f = .brk ∧ ∃ σ' φ' H', Inv X pins σ' H' s' ∧ Fr φ φ' H H' ∧ Sim K φ' h1 H' ∧ Rg K φ' H' σ' g1
  | .rt x h1 => ∃ u v σ' φ' H', f = .ret u ∧ Inv X pins σ' H' s' ∧ RelV v u ∧ Fr φ φ' H H' ∧ Sim K φ' h1 H' ∧ Rv K φ' H' v x
  | .ex .. => False
section
variable {X : Cx} {K : PySem.W.Frag} {W : WX} {pins : List (Addr × Obj)} {φ : Ph} {σ : L2.St} {H : Hp} {s : Shared} {g : Sg} {h : Mh}
theorem SRel.like {f : Flow} {s1 s2 : Shared} {r : SR} (q : SRel K X pins φ H f s1 r) (e1 : s2.heap = s1.heap) (e2 : s2.os = s1.os) (e3 : AllBare s1.gens → AllBare s2.gens) : SRel K X pins φ H f s2 r := by
  cases r with
  | nx g1 h1 => obtain ⟨a, σ', φ', H', I, b⟩ := q; exact ⟨a, σ', φ', H', Inv_like I e1 e2 (e3 I.bare), b⟩
  | ct g1 h1 => obtain ⟨a, σ', φ', H', I, b⟩ := q; exact ⟨a, σ', φ', H', Inv_like I e1 e2 (e3 I.bare), b⟩
  | bk g1 h1 => obtain ⟨a, σ', φ', H', I, b⟩ := q; exact ⟨a, σ', φ', H', Inv_like I e1 e2 (e3 I.bare), b⟩
  | rt x h1 => obtain ⟨u, v, σ', φ', H', a, I, b⟩ := q; exact ⟨u, v, σ', φ', H', a, Inv_like I e1 e2 (e3 I.bare), b⟩
  | ex e g1 h1 => exact q
theorem runS {ss : List Stmt} {S : MS} {r : SR} (hb : PSs X ss (tS K W S)) (I : Inv X pins σ H s) (hs : Sim K φ h H) (hg : Rg K φ H σ g) (e : S g h = some r)
    (hx : ∀ ee g1 h1, r = .ex ee g1 h1 → ∀ σ' C d φ' H', Fr φ φ' H H' → Sim K φ' h1 H' → Rg K φ' H' σ' g1 → Re K φ' H' ee C d → W C d σ' H') :
    wpAny (model X.prog X.w) X.A (execs ss X.env) (fun f s' => SRel K X pins φ H f s' r) X.xe s := by
  refine thn (hb.run pins s σ H { nx := fun σ' H' => ∃ g1 h1 φ', r = .nx g1 h1 ∧ Fr φ φ' H H' ∧ Sim K φ' h1 H' ∧ Rg K φ' H' σ' g1, rt := fun v H' => ∃ x h1 φ', r = .rt x h1 ∧ Fr φ φ' H H' ∧ Sim K φ' h1 H' ∧ Rv K φ' H' v x, bk := fun σ' H' => ∃ g1 h1 φ', r = .bk g1 h1 ∧ Fr φ φ' H H' ∧ Sim K φ' h1 H' ∧ Rg K φ' H' σ' g1, ct := fun σ' H' => ∃ g1 h1 φ', r = .ct g1 h1 ∧ Fr φ φ' H H' ∧ Sim K φ' h1 H' ∧ Rg K φ' H' σ' g1 } I ⟨φ, g, h, r, hs, hg, e, ?_⟩) fun f s' q => ?_
  · cases r with
    | nx g1 h1 => exact fun σ' φ' H' f s' gg => ⟨g1, h1, φ', rfl, f, s', gg⟩
    | rt x h1 => exact fun v φ' H' f s' rv => ⟨x, h1, φ', rfl, f, s', rv⟩
    | bk g1 h1 => exact fun σ' φ' H' f s' gg => ⟨g1, h1, φ', rfl, f, s', gg⟩
    | ct g1 h1 => exact fun σ' φ' H' f s' gg => ⟨g1, h1, φ', rfl, f, s', gg⟩
    | ex ee g1 h1 => exact fun σ' C d φ' H' f s' gg re => hx ee g1 h1 rfl σ' C d φ' H' f s' gg re
  · cases f with
    | next => obtain ⟨σ', H', J, g1, h1, φ', rfl, a, b, c⟩ := q; exact ⟨rfl, σ', φ', H', J, a, b, c⟩
    | brk => obtain ⟨σ', H', J, g1, h1, φ', rfl, a, b, c⟩ := q; exact ⟨rfl, σ', φ', H', J, a, b, c⟩
    | cont => obtain ⟨σ', H', J, g1, h1, φ', rfl, a, b, c⟩ := q; exact ⟨rfl, σ', φ', H', J, a, b, c⟩
    | ret u => obtain ⟨v, σ', H', J, rv, x, h1, φ', rfl, a, b, c⟩ := q; exact ⟨u, v, σ', φ', H', rfl, J, rv, a, b, c⟩
theorem runT {e : Expr} {C : Sg → M Bool} {b : Bool} {h1 : Mh} (hb : PT X e (tMT K W C)) (I : Inv X pins σ H s) (hs : Sim K φ h H) (hg : Rg K φ H σ g) (q : C g h = some (.ok b h1)) :
    wpAny (model X.prog X.w) X.A (isTrue e X.env (eval e X.env)) (fun b' s' => b' = b ∧ ∃ φ' H', Inv X pins σ H' s' ∧ Fr φ φ' H H' ∧ Sim K φ' h1 H' ∧ Rg K φ' H' σ g) X.xe s :=
  thn (hb.run pins s σ H (fun b' H' => b' = b ∧ ∃ φ', Fr φ φ' H H' ∧ Sim K φ' h1 H' ∧ Rg K φ' H' σ g) I ⟨φ, g, h, _, hs, hg, q, fun v φ' H' f s' e => ⟨e, φ', f, s', hg.mono hs.lv f⟩⟩) fun b' s' ⟨H', J, e, φ', a⟩ => ⟨e, φ', H', J, a⟩
theorem runE {e : Expr} {Y : Sg → M MV} {x : MV} {h1 : Mh} (hb : PE X e (tM K W Y)) (I : Inv X pins σ H s) (hs : Sim K φ h H) (hg : Rg K φ H σ g) (q : Y g h = some (.ok x h1)) :
    wpAny (model X.prog X.w) X.A (eval e X.env) (fun u s' => ∃ v φ' H', Inv X pins σ H' s' ∧ RelV v u ∧ Fr φ φ' H H' ∧ Sim K φ' h1 H' ∧ Rg K φ' H' σ g ∧ Rv K φ' H' v x) X.xe s :=
  thn (hb.run pins s σ H (fun v H' => ∃ φ', Fr φ φ' H H' ∧ Sim K φ' h1 H' ∧ Rg K φ' H' σ g ∧ Rv K φ' H' v x) I ⟨φ, g, h, _, hs, hg, q, fun v φ' H' f s' rv => ⟨φ', f, s', hg.mono hs.lv f, rv⟩⟩) fun u s' ⟨v, H', J, rv, φ', a⟩ => ⟨v, φ', H', J, rv, a⟩
end
end Mi
/-! Mi: a generator def of one while with one yield: what a wake does -/
namespace Mi
open PySem PySem.Spec PyProof.Rows L2 Ob StX Gsl
/-- the text: statements, a while, statements; within the while statements, one yield, statements -/
structure GD where
  pre : List Stmt
  test : Expr
  b1 : List Stmt
  y : Expr
  yp : Pos
  ypos : Pos
  b2 : List Stmt
  wpos : Pos
  post : List Stmt
def GD.loop (S : GD) : List Stmt := S.b1 ++ .Expr (.Yield (some S.y) S.yp) S.ypos :: S.b2
def GD.body (S : GD) : List Stmt := S.pre ++ .While S.test S.loop [] S.wpos :: S.post
/-- what it computes -/
structure GM where
  pre : MS
  c : Sg → M Bool
  b1 : MS
  y : Sg → M MV
  b2 : MS
  post : MS
/-- a wake hands out a value, or ends -/
inductive GR where
  | yl (v : MV) (g : Sg) (h : Mh) | en (h : Mh)
def GM.tail (G : GM) (g : Sg) (h : Mh) : Option GR := match G.post g h with
  | some (.nx _ h2) => some (.en h2)
  | some (.rt .non h2) => some (.en h2)
  | _ => none
def GM.head (G : GM) (g : Sg) (h : Mh) : Option GR := match G.c g h with
  | some (.ok true h1) => match G.b1 g h1 with
    | some (.nx g2 h2) => match G.y g2 h2 with
      | some (.ok v h3) => some (.yl v g2 h3)
      | _ => none
    | _ => none
  | some (.ok false h1) => G.tail g h1
  | _ => none
/-- true: it has not begun -/
def GM.wake (G : GM) : Bool → Sg → Mh → Option GR
  | true, g, h => match G.pre g h with
    | some (.nx g1 h1) => G.head g1 h1
    | some (.rt .non h1) => some (.en h1)
    | _ => none
  | false, g, h => match G.b2 g h with
    | some (.nx g1 h1) => G.head g1 h1
    | some (.ct g1 h1) => G.head g1 h1
    | some (.bk g1 h1) => G.tail g1 h1
    | some (.rt .non h1) => some (.en h1)
    | _ => none
abbrev W0 : WX := fun _ _ _ _ => False
structure GB (K : PySem.W.Frag) (X : Cx) (S : GD) (G : GM) : Prop where
  pre : PSs X S.pre (tS K W0 G.pre)
  test : PT X S.test (tMT K W0 G.c)
  b1 : PSs X S.b1 (tS K W0 G.b1)
  y : PE X S.y (tM K W0 G.y)
  b2 : PSs X S.b2 (tS K W0 G.b2)
  post : PSs X S.post (tS K W0 G.post)
  co : X.env.scope.isCoroutine = false
  hi : interactive X.env = false
  /-- nothing is raised -/
  nox : ∀ (A : Around) (Φ : End → Shared → Prop) (c : Code) (fs : List Frame) (s : Shared) (e : Value) (u : Sem PySem.Fin), A.over c fs = X.A → X.xe e s → Go (model X.prog X.w) A Φ c u fs s
section
abbrev wlc (S : GD) (env : Env) : Code := .whileLoop S.test S.loop [] env
/-- behind the yield -/
def kB2 (S : GD) (env : Env) : Sem PySem.Fin := (execs S.b2 env).wrap (againK (wlc S env)) (noted env) id id
/-- behind the while -/
def kPost (S : GD) (env : Env) : Flow → Sem PySem.Fin := thenK S.post env doneK (fun e => (leaving env e).wrap (fun _ => .raise e) .raise id id) id id
def GΦ (K : PySem.W.Frag) (X : Cx) (pins : List (Addr × Obj)) (φ : Ph) (H : Hp) (S : GD) : GR → End → Shared → Prop
  | .yl x gg h1, .susp v g0 _ k c _ fs, s' => (g0 = false ∧ c = wlc S X.env ∧ (∃ kf p', (∀ f, kf (.ok f) = kPost S X.env f) ∧ fs = [.ret kf none false [] (.func S.body X.env) p' []]) ∧ k (.send .none) = kB2 S X.env) ∧
      ∃ xv σ' φ' H', Inv X pins σ' H' s' ∧ RelV xv v ∧ Fr φ φ' H H' ∧ Sim K φ' h1 H' ∧ Rg K φ' H' σ' gg ∧ Rv K φ' H' xv x
  | .en h1, .ret r, s' => r = .ok (.ret .none) ∧ ∃ σ' φ' H', Inv X pins σ' H' s' ∧ Fr φ φ' H H' ∧ Sim K φ' h1 H'
  | _, _, _ => False
theorem GΦ.mono {K : PySem.W.Frag} {X : Cx} {pins : List (Addr × Obj)} {φ φ1 : Ph} {H H1 : Hp} {S : GD} {R : GR} (f : Fr φ φ1 H H1) : ∀ e s, GΦ K X pins φ1 H1 S R e s → GΦ K X pins φ H S R e s := fun e s q => by
  cases R with
  | yl x gg h1 =>
    cases e with
    | ret r => exact q
    | susp v g0 l k c p fs =>
      obtain ⟨a, xv, σ', φ', H', b, c, d, e⟩ := q
      exact ⟨a, xv, σ', φ', H', b, c, f.trans d, e⟩
  | en h1 =>
    cases e with
    | ret r =>
      obtain ⟨a, σ', φ', H', b, c, e⟩ := q
      exact ⟨a, σ', φ', H', b, f.trans c, e⟩
    | susp v g0 l k c p fs => exact q
variable {K : PySem.W.Frag} {X : Cx} {S : GD} {G : GM} {A : Around} {pins : List (Addr × Obj)} {φ : Ph} {σ : L2.St} {H : Hp} {s : Shared} {g : Sg} {h : Mh} {R : GR}
theorem rv_non_inv {φ : Ph} {H : Hp} {v : V} {u : Value} (r : Rv K φ H v .non) (rv : RelV v u) : u = .none := by
  unfold Rv at r
  subst r
  exact rv
/-- the statements behind the while -/
theorem go_tail (B : GB K X S G) (hA : A.deeper X.env = X.A) (I : Inv X pins σ H s) (hs : Sim K φ h H) (hg : Rg K φ H σ g) (e : G.tail g h = some R) :
    Go (model X.prog X.w) A (GΦ K X pins φ H S R) (.func S.body X.env) (kPost S X.env .next) [] s := by
  show Go _ A _ _ ((execs S.post X.env).wrap doneK _ id id) [] s
  have ho : A.over (.func S.body X.env) [] = X.A := GenW.over_func.trans hA
  refine go_wrap ?_
  rw [ho]
  unfold GM.tail at e
  cases q : G.post g h with
  | none => rw [q] at e; cases e
  | some r =>
    rw [q] at e
    refine wpAny_mono (runS B.post I hs hg q fun ee g1 h1 z => by subst z; cases e) (fun f s' w => ?_) fun x s' w => B.nox _ _ _ _ _ _ _ ho w
    cases r with
    | nx g1 h1 =>
      cases e
      obtain ⟨rfl, σ', φ', H', J, a, b, c⟩ := w
      exact go_end (.ok (.ret .none)) ⟨rfl, σ', φ', H', J, a, b⟩
    | rt x h1 =>
      cases x with
      | non =>
        cases e
        obtain ⟨u, v, σ', φ', H', rfl, J, rv, a, b, c⟩ := w
        obtain rfl := rv_non_inv c rv
        exact go_end (.ok (.ret .none)) ⟨rfl, σ', φ', H', J, a, b⟩
      | _ => cases e
    | _ => cases e
/-- the loop's head, over its frame -/
theorem go_headM (B : GB K X S G) (hA : A.deeper X.env = X.A) {kf : Result → Sem PySem.Fin} {p' : Pos} (hk : ∀ f, kf (.ok f) = kPost S X.env f) (I : Inv X pins σ H s) (hs : Sim K φ h H) (hg : Rg K φ H σ g) (e : G.head g h = some R) :
    Go (model X.prog X.w) A (GΦ K X pins φ H S R) (wlc S X.env) ((model X.prog X.w).den (wlc S X.env)) [.ret kf none false [] (.func S.body X.env) p' []] s := by
  have ho : A.over (wlc S X.env) [.ret kf none false [] (.func S.body X.env) p' []] = X.A := (GenW.over_loop rfl rfl).trans (GenW.over_func.trans hA)
  refine go_whileLoop ?_
  rw [ho]
  unfold GM.head at e
  cases q : G.c g h with
  | none => rw [q] at e; cases e
  | some r =>
    rw [q] at e
    cases r with
    | ex ee h1 => cases e
    | ok b h1 =>
      refine wpAny_mono (runT B.test I hs hg q) (fun b' s' ⟨eb, φ', H', J, f1, s1, g1⟩ => ?_) fun x s' w => B.nox _ _ _ _ _ _ _ ho w
      subst eb
      cases b' with
      | false =>
        rw [if_neg Bool.false_ne_true]
        refine go_nil ?_
        refine go_leaf (.ok .next) ?_
        rw [hk]
        exact (go_tail B hA J s1 g1 e).mono (GΦ.mono f1)
      | true =>
        rw [if_pos rfl]
        refine go_iff (go_app (M := model X.prog X.w) (c := wlc S X.env) _ S.b1) ?_
        refine go_wrap ?_
        rw [ho]
        dsimp only at e
        cases q1 : G.b1 g h1 with
        | none => rw [q1] at e; cases e
        | some r1 =>
          rw [q1] at e
          refine wpAny_mono (runS B.b1 J s1 g1 q1 fun ee g1 h1 z => by subst z; cases e) (fun f s2 w => ?_) fun x s' w => B.nox _ _ _ _ _ _ _ ho w
          cases r1 with
          | nx g2 h2 =>
            obtain ⟨rfl, σ2, φ2, H2, J2, f2, s2', g2'⟩ := w
            dsimp only at e
            cases q2 : G.y g2 h2 with
            | none => rw [q2] at e; cases e
            | some r2 =>
              rw [q2] at e
              cases r2 with
              | ex ee h3 => cases e
              | ok v h3 =>
                cases e
                refine go_cons (go_Yield B.co B.hi rfl rfl ?_)
                rw [ho]
                refine wpAny_mono (runE B.y J2 s2' g2' q2) (fun u s3 ⟨xv, φ3, H3, J3, rv, f3, s3', g3, rx⟩ => ?_) fun x s' w => B.nox _ _ _ _ _ _ _ ho w
                intro l k p hkk
                exact ⟨⟨rfl, rfl, ⟨kf, p', hk, rfl⟩, hkk⟩, xv, σ2, φ3, H3, J3, rv, f1.trans (f2.trans f3), s3', g3, rx⟩
          | _ => cases e
/-- a wake -/
theorem go_wakeT (B : GB K X S G) (hA : A.deeper X.env = X.A) (I : Inv X pins σ H s) (hs : Sim K φ h H) (hg : Rg K φ H σ g) (e : G.wake true g h = some R) :
    Go (model X.prog X.w) A (GΦ K X pins φ H S R) (.func S.body X.env) ((model X.prog X.w).den (.func S.body X.env)) [] s := by
  have ho : A.over (.func S.body X.env) [] = X.A := GenW.over_func.trans hA
  refine go_func ?_
  refine go_iff (go_app (M := model X.prog X.w) (c := .func S.body X.env) _ S.pre) ?_
  refine go_wrap ?_
  rw [ho]
  unfold GM.wake at e
  dsimp only at e
  cases q : G.pre g h with
  | none => rw [q] at e; cases e
  | some r =>
    rw [q] at e
    refine wpAny_mono (runS B.pre I hs hg q fun ee g1 h1 z => by subst z; cases e) (fun f s' w => ?_) fun x s' w => B.nox _ _ _ _ _ _ _ ho w
    cases r with
    | nx g1 h1 =>
      obtain ⟨rfl, σ', φ', H', J, f1, s1, g1'⟩ := w
      refine go_cons ?_
      obtain ⟨kf, hk, hw⟩ := go_While (env := X.env) (test := S.test) (body := S.loop) (orelse := []) (pos := S.wpos) (M := model X.prog X.w) (kPost S X.env) (fun e => (leaving X.env e).wrap (fun _ => .raise e) .raise id id) id id (.func S.body X.env)
      exact hw fun p => (go_headM B hA hk J s1 g1' e).mono (GΦ.mono f1)
    | rt x h1 =>
      cases x with
      | non =>
        cases e
        obtain ⟨u, v, σ', φ', H', rfl, J, rv, a, b, c⟩ := w
        obtain rfl := rv_non_inv c rv
        exact go_end (.ok (.ret .none)) ⟨rfl, σ', φ', H', J, a, b⟩
      | _ => cases e
    | _ => cases e
theorem go_wakeF (B : GB K X S G) (hA : A.deeper X.env = X.A) {kf : Result → Sem PySem.Fin} {p' : Pos} (hk : ∀ f, kf (.ok f) = kPost S X.env f) (I : Inv X pins σ H s) (hs : Sim K φ h H) (hg : Rg K φ H σ g) (e : G.wake false g h = some R) :
    Go (model X.prog X.w) A (GΦ K X pins φ H S R) (wlc S X.env) (kB2 S X.env) [.ret kf none false [] (.func S.body X.env) p' []] s := by
  have ho : A.over (wlc S X.env) [.ret kf none false [] (.func S.body X.env) p' []] = X.A := (GenW.over_loop rfl rfl).trans (GenW.over_func.trans hA)
  refine go_wrap ?_
  rw [ho]
  unfold GM.wake at e
  dsimp only at e
  cases q : G.b2 g h with
  | none => rw [q] at e; cases e
  | some r =>
    rw [q] at e
    refine wpAny_mono (runS B.b2 I hs hg q fun ee g1 h1 z => by subst z; cases e) (fun f s' w => ?_) fun x s' w => B.nox _ _ _ _ _ _ _ ho w
    cases r with
    | nx g1 h1 =>
      obtain ⟨rfl, σ', φ', H', J, f1, s1, g1'⟩ := w
      exact go_again rfl ((go_headM B hA hk J s1 g1' e).mono (GΦ.mono f1))
    | ct g1 h1 =>
      obtain ⟨rfl, σ', φ', H', J, f1, s1, g1'⟩ := w
      exact go_again rfl ((go_headM B hA hk J s1 g1' e).mono (GΦ.mono f1))
    | bk g1 h1 =>
      obtain ⟨rfl, σ', φ', H', J, f1, s1, g1'⟩ := w
      refine go_leaf (.ok .next) ?_
      rw [hk]
      exact (go_tail B hA J s1 g1' e).mono (GΦ.mono f1)
    | rt x h1 =>
      cases x with
      | non =>
        cases e
        obtain ⟨u, v, σ', φ', H', rfl, J, rv, a, b, c⟩ := w
        obtain rfl := rv_non_inv c rv
        refine go_leaf (.ok (.ret .none)) ?_
        rw [hk]
        exact go_end (.ok (.ret .none)) ⟨rfl, σ', φ', H', J, a, b⟩
      | _ => cases e
    | _ => cases e
/-- the state of a generator that has not begun, or sleeps -/
def GSt (S : GD) (env : Env) : Bool → GenState → Prop
  | true, x => x = .fresh (.func S.body env)
  | false, x => ∃ k l p kf p', x = .suspended k l (wlc S env) p [.ret kf none false [] (.func S.body env) p' []] false ∧ k (.send .none) = kB2 S env ∧ ∀ f, kf (.ok f) = kPost S env f
theorem wk_of (B : GB K X S G) (hA : A.deeper X.env = X.A) {b : Bool} {x : GenState} (hx : GSt S X.env b x) (I : Inv X pins σ H s) (hs : Sim K φ h H) (hg : Rg K φ H σ g) (e : G.wake b g h = some R) : Wk (model X.prog X.w) A (GΦ K X pins φ H S R) s x := by
  cases b with
  | true =>
    have hx : x = .fresh (.func S.body X.env) := hx
    subst hx
    exact go_wakeT B hA I hs hg e
  | false =>
    obtain ⟨k, l, p, kf, p', rfl, e1, e2⟩ := hx
    intro Γ hc hw
    rw [e1]
    exact go_wakeF B hA e2 I hs hg e Γ p hc hw
end
end Mi
/-! Mi: the generator's context at a wake, the way back, its call -/
namespace Mi
open PySem PySem.Spec PyProof.Rows L2 Ob StX Gsl
def EX0 : XK := fun _ _ _ => False
structure GnOk (P : Program) (w : World) (K : PySem.W.Frag) (mg : Str → Option Value) (base : Heap) (k : Nat) (f : Addr) (qual : Str) (scope : Scope) (cd : Value) (N ps : List Str) (S : GD) (G : GM) : Prop where
  sc : L2.GScope N ps scope
  nocell : ∀ y ∈ scope.names, y.2 ≠ .cell
  body : ∀ (A : Around) (outer : List Env) (s : Shared) (H : Hp), Room k (A.deeper (envOfC qual scope s.heap.objs.size f cd)) → GB K (cxOf (L2.CX P w) P w K mg base N qual scope f cd A outer s H EX0) S G
/-- the frame's object, as it stands -/
def OLoc (scope : Scope) (N : List Str) (o : Obj) (σ : L2.St) : Prop := ∃ es ep, ∃ m : Str → Option Value, o.data = .dict es ep ∧ StrKeys es ∧ (∀ name, nsFind es name = m name) ∧ σ.length = N.length ∧
  ∀ (i : Nat) (x : Str) (v : V), N[i]? = some x → σ[i]? = some (some v) → Vis scope x → ∃ u, RelV v u ∧ scope.names.lookup x = some .local ∧ m x = some u
/-- all that the consumer had stands below L -/
structure Far (X : Cx) (pins : List (Addr × Obj)) (L : Nat) : Prop where
  base : X.base.objs.size ≤ L
  s0 : X.s_0.heap.objs.size ≤ L
  frs : ∀ b ∈ frs X.stack, b < L
  fs : ∀ b ∈ X.fs, b < L
  loc : X.env.locals < L
  cells : ∀ x c, X.env.cells.lookup x = some c → c < L
  pins : ∀ p ∈ X.pn ++ pins, p.1 < L
section
variable {X : Cx} {pins : List (Addr × Obj)} {σ σg σ2 : L2.St} {H H2 : Hp} {s s1 s2 s3 : Shared} {k : Nat} {f : Addr} {qual : Str} {scope : Scope} {cd : Value} {N ps : List Str} {S : GD} {G : GM} {L a : Nat} {go oL : Obj}
theorem far_of (I : Inv X pins σ H s) : Far X pins s.heap.objs.size where
  base := Nat.le_trans I.ok.bsz I.sz
  s0 := I.sz
  frs := fun b hb => let ⟨_, o, ho, _⟩ := I.stack.mem hb; Heap.lt_size ho
  fs := fun b hb => let ⟨_, o, ho, _⟩ := I.funs.mem hb; Heap.lt_size ho
  loc := I.lt
  cells := fun x c e => let ⟨_, o, ho, _⟩ := I.cell x c e; Heap.lt_size ho
  pins := fun p hp => Heap.lt_size (I.pin p hp).1
/-- no cells -/
theorem nocells {names : List (Str × NameKind)} (h : ∀ y ∈ names, y.2 ≠ .cell) : ∀ (n : Nat) (acc : List (Str × Addr)), cellsFrom n names acc = acc := by
  induction names with
  | nil => exact fun n acc => rfl
  | cons y r ih =>
    intro n acc
    obtain ⟨x, kd⟩ := y
    have e : (kd == NameKind.cell) = false := by
      have := h (x, kd) List.mem_cons_self
      cases kd <;> first | rfl | exact absurd rfl this
    unfold cellsFrom
    rw [if_neg (by rw [e]; decide)]
    exact ih (fun y hy => h y (List.mem_cons_of_mem _ hy)) n acc
theorem FunFrames_cut {h base : Heap} {L : Nat} : ∀ {l : List Env}, (∀ b ∈ frs l, b < L) → h.FunFrames base l → (cut h L).FunFrames base l
  | [], _, _ => trivial
  | env :: r, hb, ⟨hk, ⟨M, o, hf, hn, ho, hd⟩, hr⟩ => by
    have hM : M < L := hb M (by unfold frs; rw [List.filterMap_cons, hf]; exact List.mem_cons_self)
    exact ⟨hk, ⟨M, o, hf, hn, (cut_get hM).trans ho, hd⟩, FunFrames_cut (fun b z => hb b (by unfold frs; rw [List.filterMap_cons, hf]; exact List.mem_cons_of_mem _ z)) hr⟩
theorem wake_inv (sc : L2.GScope N ps scope) (nc : ∀ y ∈ scope.names, y.2 ≠ .cell) (I : Inv X (pins ++ [(a, go), (L, oL)]) σ H s) (hc : X.calm = true) (F : Far X pins L) (haL : L < a) (hl : OLoc scope N oL σg) (h1 : s1.heap = s.heap) (o1 : s1.os = s.os) (b1 : AllBare s1.gens) :
    ∃ sT : Shared, sT.heap.objs.size = L ∧ sT.heap = cut s.heap L ∧ Inv (cxOf (L2.CX X.prog X.w) X.prog X.w X.K X.mg X.base N qual scope f cd X.A.in1 X.stack sT H EX0) [(a, go)] σg H s1 := by
  have Ia := I.pin (a, go) (List.mem_append_right _ (List.mem_append_right _ (by simp)))
  have IL := I.pin (L, oL) (List.mem_append_right _ (List.mem_append_right _ (by simp)))
  have hLs : L ≤ s.heap.objs.size := Nat.le_of_lt (Heap.lt_size IL.1)
  obtain ⟨es, ep, m, d1, d2, d3, d4, d5⟩ := hl
  have cn : ∀ (n : Nat) (x : Str) (c : Addr), (cellsFrom n scope.names []).lookup x = some c → False := fun n x c e => by rw [nocells nc] at e; cases e
  have kn : ∀ x : Str, ¬ (scope.names.lookup x = some .cell ∨ scope.names.lookup x = some .free) := fun x q => by
    rcases q with q | q
    · exact nc _ (PySem.mem_of_lookup q) rfl
    · exact sc.nofree _ (PySem.mem_of_lookup q) rfl
  refine ⟨{ s with heap := cut s.heap L }, cut_size hLs, rfl, ?_⟩
  have eL : ({ s with heap := cut s.heap L } : Shared).heap.objs.size = L := cut_size hLs
  generalize hT : ({ s with heap := cut s.heap L } : Shared) = sT at eL
  have eh : sT.heap = cut s.heap L := by rw [← hT]
  have eo : sT.os = s.os := by rw [← hT]
  have noA : ∀ b : Addr, b ∉ (cxOf (L2.CX X.prog X.w) X.prog X.w X.K X.mg X.base N qual scope f cd X.A.in1 X.stack sT H EX0).ex := fun b z => absurd (show b ∈ ([] : List Addr) from z) (by simp)
  have kp : ∀ b o, sT.heap.get? b = some o → s1.heap.get? b = some o := fun b o e => by rw [eh] at e; rw [h1]; exact (cut_of e).2
  have eloc : (cxOf (L2.CX X.prog X.w) X.prog X.w X.K X.mg X.base N qual scope f cd X.A.in1 X.stack sT H EX0).env.locals = L := eL
  refine ⟨⟨I.ok.mod, sc.kind, rfl, rfl, Nat.le_refl _, fun y z c h1 h2 => (cn _ _ _ h1).elim, fun y hy => (kn y hy).elim, fun y c _ h => (cn _ _ _ h).elim, fun _ => I.ok.hd hc, Around.frames_deeper I.ok.frames, .inr ⟨rfl, rfl⟩, fun b z => absurd z (noA b), fun b o e => ?_, ?_, fun b _ _ => noA b, fun b z => absurd z (noA b), ?_, I.stkFree⟩,
    o1.trans eo.symm, b1, Un.kept kp, ⟨m, ?_, fun i x v e1 e2 e3 => ?_⟩, fun y c h => (cn _ _ _ h).elim, ?_, fun y c h => (cn _ _ _ h).elim, fun p hp => ?_, ?_, d4⟩
  · obtain ⟨q1, q2⟩ := I.bs b o e
    refine ⟨?_, q2⟩
    show sT.heap.get? b = some o
    rw [eh, cut_get (Nat.lt_of_lt_of_le (Heap.lt_size e) F.base)]
    exact q1
  · show X.base.objs.size ≤ sT.heap.objs.size
    rw [eL]
    exact F.base
  · show sT.heap.FunFrames X.base X.stack
    rw [eh]
    exact FunFrames_cut F.frs I.stack
  · rw [eloc]
    exact ⟨oL, es, ep, by rw [h1]; exact IL.1, d1, d2, d3⟩
  · obtain ⟨u, r, q1, q2⟩ := d5 i x v e1 e2 e3
    exact ⟨u, r, .inl ⟨q1, q2⟩⟩
  · rw [eloc]
    exact IL.2.1
  · have hp : p ∈ ([] : List (Addr × Obj)) ++ [(a, go)] := hp
    obtain rfl : p = (a, go) := by simpa using hp
    refine ⟨by rw [h1]; exact Ia.1, Ia.2.1, ?_, fun hb => ?_, Ia.2.2.2.2⟩
    · rw [eloc]
      exact Nat.ne_of_gt haL
    · exact absurd (Nat.lt_trans haL (F.frs a hb)) (Nat.lt_irrefl _)
  · rw [h1]
    exact I.hok
/-- the way back -/
theorem back_inv (sc : L2.GScope N ps scope) (nc : ∀ y ∈ scope.names, y.2 ≠ .cell) (I : Inv X (pins ++ [(a, go), (L, oL)]) σ H s) (F : Far X pins L) (haL : L < a) {sT : Shared} (eL : sT.heap.objs.size = L) (eh : sT.heap = cut s.heap L)
    (J : Inv (cxOf (L2.CX X.prog X.w) X.prog X.w X.K X.mg X.base N qual scope f cd X.A.in1 X.stack sT H EX0) [(a, go)] σ2 H2 s2) (h3 : s3.heap = s2.heap) (o3 : s3.os = s2.os) (b3 : AllBare s3.gens) (hos : sT.os = s.os) :
    ∃ oL2, OLoc scope N oL2 σ2 ∧ Inv X (pins ++ [(a, go), (L, oL2)]) σ H2 s3 := by
  have Ia := I.pin (a, go) (List.mem_append_right _ (List.mem_append_right _ (by simp)))
  have IL := I.pin (L, oL) (List.mem_append_right _ (List.mem_append_right _ (by simp)))
  have Ja := J.pin (a, go) (List.mem_append_right _ (by simp))
  have kn : ∀ x : Str, ¬ (scope.names.lookup x = some .cell ∨ scope.names.lookup x = some .free) := fun x q => by
    rcases q with q | q
    · exact nc _ (PySem.mem_of_lookup q) rfl
    · exact sc.nofree _ (PySem.mem_of_lookup q) rfl
  have eloc : (cxOf (L2.CX X.prog X.w) X.prog X.w X.K X.mg X.base N qual scope f cd X.A.in1 X.stack sT H EX0).env.locals = L := eL
  obtain ⟨m, ⟨oL2, es, ep, e1, e2, e3, e4⟩, hl⟩ := J.loc
  rw [eloc] at e1
  have JF : H2 L = none := by have := J.free; rw [eloc] at this; exact this
  refine ⟨oL2, ⟨es, ep, m, e2, e3, e4, J.len, fun i x v q1 q2 q3 => ?_⟩, ?_⟩
  · obtain ⟨u, r, q⟩ := hl i x v q1 q2 q3
    rcases q with ⟨q4, q5⟩ | ⟨q4, _⟩
    · exact ⟨u, r, q4, q5⟩
    · exact (kn x q4).elim
  have I0 : Inv X pins σ H s := I.unpinned
  obtain ⟨ch, hch⟩ : ∃ ch : List Addr, ch = (List.range s.heap.objs.size).filter fun b => decide (L ≤ b ∧ b ≠ a) := ⟨_, rfl⟩
  have inch : ∀ b, b ∈ ch ↔ b < s.heap.objs.size ∧ L ≤ b ∧ b ≠ a := fun b => by
    rw [hch, List.mem_filter, List.mem_range, decide_eq_true_iff]
  have split : ∀ {b : Nat} {o : Obj}, s.heap.get? b = some o → b ∉ ch → (b < L ∧ sT.heap.get? b = some o) ∨ (b = a ∧ o = go) := fun {b o} e n => by
    by_cases q : b < L
    · exact .inl ⟨q, by rw [eh, cut_get q]; exact e⟩
    · by_cases q2 : b = a
      · subst q2
        rw [Ia.1] at e
        exact .inr ⟨rfl, (Option.some.inj e).symm⟩
      · exact absurd ((inch b).mpr ⟨Heap.lt_size e, Nat.le_of_not_lt q, q2⟩) n
  have u : Un (frs X.stack) ch H H2 s.heap s3.heap := by
    rw [h3]
    refine ⟨fun b o e n hb hx => ?_, fun b o e n hb hx => ?_, fun b o e n hx => ?_, fun b o e hx => ?_, J.base.tups, J.base.frzs, J.base.tbls⟩
    · rcases split e hx with ⟨_, q⟩ | ⟨rfl, rfl⟩
      · exact J.base.keep b o q n hb (fun z => absurd (show b ∈ ([] : List Addr) from z) (by simp))
      · exact Ja.1
    · rcases split e hx with ⟨_, q⟩ | ⟨rfl, rfl⟩
      · exact J.base.slot b o q n hb (fun z => absurd (show b ∈ ([] : List Addr) from z) (by simp))
      · exact ⟨o.slots, Ja.1⟩
    · rcases split e hx with ⟨_, q⟩ | ⟨rfl, rfl⟩
      · exact J.base.free b o q n (fun z => absurd (show b ∈ ([] : List Addr) from z) (by simp))
      · exact Ja.2.1
    · rcases split e hx with ⟨_, q⟩ | ⟨rfl, rfl⟩
      · exact J.base.there b o q (fun z => absurd (show b ∈ ([] : List Addr) from z) (by simp))
      · exact ⟨o, Ja.1⟩
  have I1 : Inv X pins σ H2 s3 := I0.call' (ch := ch) (o3.trans (J.os.trans hos)) u (by rw [h3]; exact J.hok) b3 fun b hb => by
    obtain ⟨q1, q2, q3⟩ := (inch b).mp hb
    refine ⟨.inr (Nat.le_trans F.s0 q2), Nat.ne_of_gt (Nat.lt_of_lt_of_le F.loc q2), fun x c e => Nat.ne_of_lt (Nat.lt_of_lt_of_le (F.cells x c e) q2), fun p hp => Nat.ne_of_lt (Nat.lt_of_lt_of_le (F.pins p hp) q2)⟩
  refine I1.pins_of fun p hp => ?_
  rcases List.mem_append.mp hp with z | z
  · exact I1.pin p (List.mem_append_right _ z)
  · have z : p = (a, go) ∨ p = (L, oL2) := by simpa using z
    rcases z with rfl | rfl
    · exact ⟨by rw [h3]; exact Ja.1, Ja.2.1, Ia.2.2⟩
    · exact ⟨by rw [h3]; exact e1, JF, IL.2.2.1, IL.2.2.2.1, fun v z => by rw [e2] at z; cases z⟩
end
end Mi
/-! Mi: for over a generator -/
namespace Mi
open PySem PySem.Spec PyProof.Rows L2 Ob StX Gsl
/-- for T in f(..): body; true: it has not begun; gg: the generator's names -/
def forG (G : GM) (T : MT) (B : MS) : Nat → Bool → Sg → MS
  | 0, _, _ => fun _ _ => none
  | n + 1, b, gg => fun g h => match G.wake b gg h with
    | none => none
    | some (.en h1) => some (.nx g h1)
    | some (.yl x g1 h1) => match T x g h1 with
      | some (.ok g2 h2) => match B g2 h2 with
        | some (.nx g3 h3) => forG G T B n false g1 g3 h3
        | some (.ct g3 h3) => forG G T B n false g1 g3 h3
        | some (.bk g3 h3) => some (.nx g3 h3)
        | r => r
      | _ => none
def sForG (G : GM) (p n : Nat) (As : Sg → M (List MV)) (T : MT) (B : MS) : MS := bs As fun xs => if xs.length = p then forG G T B FUEL true (xs.map some ++ List.replicate (n - xs.length) none) else fun _ _ => none
/-- the generator's object -/
def GO (o : Obj) (g : Nat) : Prop := o.cls = .type "generator" ∧ (∃ nm qn, o.data = .fields #[.int g 0, nm, qn]) ∧ o.slots = #[]
section
variable {X : Cx} {pins : List (Addr × Obj)} {σ : L2.St} {H : Hp} {s : Shared} {k : Nat} {f : Addr} {name qual : Str} {params : Arguments} {scope : Scope} {dV kV doc pm cdv ct oc : Value} {an od : Option Addr} {osl : Array (Option Value)} {N ps : List Str} {S : GD} {G : GM}
theorem run_gen {body : List Stmt} {us : List Value} {vs : List V} {Q : Value → Shared → Prop} {E : Value → Shared → Prop} (lk : X.K.lookup f = some ⟨oc, od, .func (PySem.W.fnOf name qual params body scope dV kV doc pm an cdv ct), osl⟩) (hcd : PySem.W.codeIn X.K cdv qual = true)
    (sc : L2.GScope N ps scope) (nc : ∀ y ∈ scope.names, y.2 ≠ .cell) (hr : Room k X.A) (hb : BindsTo s (PySem.W.fnOf name qual params body scope dV kV doc pm an cdv ct) ⟨us, []⟩ (ps.zip us)) (I : Inv X pins σ H s) (hl : vs.length = ps.length) (r : Vals vs us)
    (hQ : ∀ a g go oL s', s.heap.objs.size < a → GO go g → Inv X (pins ++ [(a, go), (s.heap.objs.size, oL)]) σ H s' → OLoc scope N oL (L2.start N vs) → s'.gens[g]? = some (.fresh (.func body (envOfC qual scope s.heap.objs.size f cdv))) → Q (.ref a) s') :
    wpAny (model X.prog X.w) X.A (call (.ref f) us) Q E s := by
  have KX : X.K.In s.heap := I.kIn
  have lim : s.heap.NoLimit := I.nolimit
  have hkind : ∀ y ∈ ps.zip us, scope.names.lookup y.1 = some .local ∨ (scope.names.lookup y.1 = some .cell ∧ ((cellsFrom (s.heap.objs.size + 1) scope.names []).lookup y.1).isSome = true) := fun ⟨n, v⟩ hy => by
    rcases sc.par n (List.of_mem_zip hy).1 with q | q
    · exact .inl q
    · exact (nc _ (PySem.mem_of_lookup q) rfl).elim
  refine wpAny_call (codeAny_mono (R := fun r s' => match r with | .ok (.ret u) => Q u s' | _ => False) ?_ fun r s' hq => ?_)
  · refine codeAny_call_generator hr.depth (KX _ _ lk) rfl sc.co sc.gen rfl (PySem.W.codeRec_of KX hcd) (hb _ _ _ _ ?_)
    refine wpAny_newFunctionEnv_cells sc.kind hkind fun env he s1 x => ?_
    subst he
    refine ⟨lim.keeps x.toInCall.keep, ?_⟩
    obtain ⟨h1, tk, es1, hk1⟩ := x.done
    obtain ⟨oL, es, ep, eL, d1, d2, d3⟩ := x.toInCall.ns
    have lt1 : s.heap.objs.size < s1.heap.objs.size := x.toInCall.ns.lt
    have kp1 : ∀ b o, s.heap.get? b = some o → s1.heap.get? b = some o := x.toInCall.keep
    have os1 : s1.os = s.os := by rw [es1]
    have g1 : s1.gens = s.gens := by rw [es1]
    have F := far_of I
    have main : ∀ (go : Obj) (nm qn : Value) (tk2 : Nat), go.cls = .type "generator" → go.data = .fields #[.int s1.gens.size 0, nm, qn] → go.slots = #[] → (∀ h : Heap, (h.push go).get? h.objs.size = some go) →
        Q (.ref s1.heap.objs.size) { s1 with gens := s1.gens.push (.fresh (.func body (envOfC qual scope s.heap.objs.size f cdv))), toks := tk2, heap := s1.heap.push go } := by
      intro go nm qn tk2 c1 c2 c3 c4
      have kp2 : ∀ b o, s.heap.get? b = some o → (s1.heap.push go).get? b = some o := fun b o e => Heap.get?_push_of_some _ (kp1 b o e)
      have J : Inv X pins σ H { s1 with gens := s1.gens.push (.fresh (.func body (envOfC qual scope s.heap.objs.size f cdv))), toks := tk2, heap := s1.heap.push go } :=
        I.call' (ch := []) os1 (Un.kept kp2) (I.hok.kept kp2) (AllBare.push (by rw [g1]; exact I.bare) rfl) fun b z => by simp at z
      refine hQ _ s1.gens.size go oL _ lt1 ⟨c1, ⟨nm, qn, c2⟩, c3⟩ (J.pins_of fun p hp => ?_) ⟨es, ep, _, d1, d2, d3, ?_, fun i x v h1 h2 h3 => ?_⟩ (Array.getElem?_push_size ..)
      · rcases List.mem_append.mp hp with z | z
        · exact J.pin p (List.mem_append_right _ z)
        · have z : p = (s1.heap.objs.size, go) ∨ p = (s.heap.objs.size, oL) := by simpa using z
          rcases z with rfl | rfl
          · refine ⟨c4 _, I.hok.fresh (Nat.le_of_lt lt1), Nat.ne_of_gt (Nat.lt_trans F.loc lt1), fun hb => absurd (Nat.lt_trans (F.fs _ hb) lt1) (Nat.lt_irrefl _), fun v z => by rw [c2] at z; cases z⟩
          · exact ⟨Heap.get?_push_of_some _ eL, I.hok.fresh (Nat.le_refl _), Nat.ne_of_gt F.loc, fun hb => absurd (F.fs _ hb) (Nat.lt_irrefl _), fun v z => by rw [d1] at z; cases z⟩
      · have hpl : ps.length ≤ N.length := by have := congrArg List.length sc.pre; rw [List.length_take] at this; omega
        unfold L2.start
        rw [List.length_append, List.length_map, List.length_replicate]
        omega
      · have hi : i < vs.length := by
          unfold L2.start at h2
          by_cases hi : i < vs.length
          · exact hi
          · rw [List.getElem?_append_right (by simpa using hi), List.getElem?_replicate] at h2
            split at h2 <;> cases h2
        have ha : vs[i]? = some v := by
          unfold L2.start at h2
          rw [List.getElem?_append_left (by simpa using hi), List.getElem?_map] at h2
          cases e : vs[i]? with
          | none => rw [e] at h2; cases h2
          | some a => rw [e] at h2; cases h2; rfl
        obtain ⟨u, hu, rv⟩ := r.get ha
        have hp : ps[i]? = some x := by
          rw [← sc.pre, List.getElem?_take_of_lt (by omega)]; exact h1
        have ndP : ps.Nodup := by rw [← sc.pre]; exact sc.nd.sublist (List.take_sublist _ _)
        have hk : scope.names.lookup x = some .local := by
          rcases sc.par x (List.mem_of_getElem? hp) with q | q
          · exact q
          · exact (nc _ (PySem.mem_of_lookup q) rfl).elim
        exact ⟨u, rv, hk, bindL_get ndP hp hu hk⟩
    exact main _ _ _ _ rfl rfl rfl fun h => Heap.get?_push_size _ rfl
  · cases r with
    | error e => exact hq.elim
    | ok fl => cases fl <;> exact hq
end
end Mi
/-! Mi: for over a generator's call -/
namespace Mi
open PySem PySem.Spec PyProof.Rows L2 Ob StX Gsl
theorem wk_gsz {M : Model} {A : Around} {Φ : End → Shared → Prop} {s : Shared} {x : GenState} (h : Wk M A Φ s x) : Wk M A (fun e s1 => Φ e s1 ∧ s.gens.size ≤ s1.gens.size) s x := by
  cases x with
  | fresh c => exact fun Γ p e hw => let ⟨e, s', r, q⟩ := h Γ p e hw; ⟨e, s', r, q, GenW.runs_gsz r⟩
  | suspended k l c p fs cl => exact fun Γ e hw => let ⟨e, s', r, q⟩ := h Γ e hw; ⟨e, s', r, q, GenW.runs_gsz r⟩
  | running => exact h
  | finished => exact h
/-- a generator def of the text, called by position -/
def GnM (P : Program) (w : World) (K : PySem.W.Frag) (mg : Str → Option Value) (base : Heap) (k : Nat) (f : Addr) (S : GD) (G : GM) (p n : Nat) : Prop :=
  ∃ (name qual : Str) (params : Arguments) (scope : Scope) (dV kV doc pm cdv ct oc : Value) (an od : Option Addr) (osl : Array (Option Value)) (N ps : List Str),
    K.lookup f = some ⟨oc, od, .func (PySem.W.fnOf name qual params S.body scope dV kV doc pm an cdv ct), osl⟩ ∧ PySem.W.codeIn K cdv qual = true ∧ Binds K (PySem.W.fnOf name qual params S.body scope dV kV doc pm an cdv ct) ps [] ∧
    GnOk P w K mg base k f qual scope cdv N ps S G ∧ ps.length = p ∧ N.length = n
section
variable {X : Cx} {K : PySem.W.Frag} {W : WX} {pins : List (Addr × Obj)} {σ : L2.St} {H : Hp} {s : Shared} {k p n : Nat} {f : Addr} {qual : Str} {scope : Scope} {cdv : Value} {N ps : List Str} {S : GD} {G : GM} {T : MT} {B : MS} {tg : Expr} {body : List Stmt}
/-- the loop goes on -/
def LI (K : PySem.W.Frag) (X : Cx) (pins : List (Addr × Obj)) (φ1 : Ph) (H1 : Hp) (a L gi : Nat) (go : Obj) (scope : Scope) (N : List Str) (env : Env) (S : GD) (G : GM) (T : MT) (B : MS) (r : SR) (n : Nat) (s' : Shared) : Prop :=
  ∃ b oL σ' σg H' φ' g' gg h' x, Inv X (pins ++ [(a, go), (L, oL)]) σ' H' s' ∧ Fr φ1 φ' H1 H' ∧ Sim K φ' h' H' ∧ Rg K φ' H' σ' g' ∧ Rg K φ' H' σg gg ∧ OLoc scope N oL σg ∧ s'.gens[gi]? = some x ∧ GSt S env b x ∧ forG G T B n b gg g' h' = some r
theorem gen_loop {φ1 : Ph} {H1 : Hp} {a L gi : Nat} {go : Obj} {D : Ends} {r : SR} (O : GnOk X.prog X.w X.K X.mg X.base k f qual scope cdv N ps S G) (hr : Room (k + 2) X.A) (kx : KeepsG X) (hp : PassesOwn (model X.prog X.w) X.A X.env X.xe) (hc : X.calm = true) (hg : PG X tg (tgM X.K W T)) (hb : PSs X body (tS X.K W B))
    (hgo : GO go gi) (haL : L < a) (F : Far X pins L) (pp : Ps X.K W φ1 H1 D r) (n : Nat) (s : Shared) (h : LI X.K X pins φ1 H1 a L gi go scope N (envOfC qual scope L f cdv) S G T B r n s) :
    codeAny (model X.prog X.w) X.A (.forLoop tg (.ref a) body [] X.env) (fun r s' => match r with | .ok f => SP X pins D f s' | .error e => cameBackBy (model X.prog X.w) X.A X.env X.xe e s') s := by
  refine codeAny_forLoop_any (LI X.K X pins φ1 H1 a L gi go scope N (envOfC qual scope L f cdv) S G T B r) ?_ n h
  rintro n s3 ⟨b, oL, σ3, σg, H3, φ3, g3, gg, h3, x, I3, f3, s3', rg3, rgg, hO, hx, hst, e⟩
  cases n with
  | zero => cases e
  | succ n =>
    unfold forG at e
    cases qw : G.wake b gg h3 with
    | none => rw [qw] at e; cases e
    | some R =>
      rw [qw] at e
      have Ia := I3.pin (a, go) (List.mem_append_right _ (List.mem_append_right _ (by simp)))
      obtain ⟨c1, ⟨nm, qn, c2⟩, c3⟩ := id hgo
      have isg : s3.heap.IsGen a gi := ⟨go, nm, qn, Ia.1, c1, c2, c3⟩
      obtain ⟨sT, eL, eh, JX⟩ := wake_inv (f := f) (qual := qual) (cd := cdv) (s1 := s3.setGen gi .running) O.sc O.nocell I3 hc F haL hO rfl rfl (allBare_setGen I3.bare rfl)
      have hos : sT.os = s3.os := JX.os.symm
      have B0 := O.body X.A.in1 X.stack sT H3 (hr.in1.deeper _)
      have hst' : GSt S (cxOf (L2.CX X.prog X.w) X.prog X.w X.K X.mg X.base N qual scope f cdv X.A.in1 X.stack sT H3 EX0).env b x := by
        show GSt S (envOfC qual scope sT.heap.objs.size f cdv) b x
        rw [eL]
        exact hst
      refine next_go (I3.ok.hd hc) I3.nolimit hr.depth isg hx (wk_gsz (wk_of B0 rfl hst' JX s3' rgg qw)) (fun v l k' c p fs g₀ s4 hΦ => ?_) (fun rr s4 hΦ => ?_)
      · obtain ⟨hΦ, hsz⟩ := hΦ
        cases R with
        | en h1 => exact hΦ.elim
        | yl xm gg1 h1 =>
          obtain ⟨⟨rfl, rfl, ⟨kf, p', hkf, rfl⟩, hk2⟩, xv, σ4, φ4, H4, J4, rv, f4, s4', rg4, rx⟩ := hΦ
          refine ⟨rfl, ?_⟩
          obtain ⟨oL2, hO2, I4⟩ := back_inv O.sc O.nocell I3 F haL eL eh J4 (s3 := s4.setGen gi (End.susp v false l k' (wlc S (cxOf (L2.CX X.prog X.w) X.prog X.w X.K X.mg X.base N qual scope f cdv X.A.in1 X.stack sT H3 EX0).env) p
            [.ret kf none false [] (.func S.body (cxOf (L2.CX X.prog X.w) X.prog X.w X.K X.mg X.base N qual scope f cdv X.A.in1 X.stack sT H3 EX0).env) p' []]).genState) rfl rfl (allBare_setGen J4.bare rfl) hos
          have hgi : gi < s4.gens.size := by
            have q1 : (s3.setGen gi .running).gens.size = s3.gens.size := GenW.setGen_size s3 gi .running
            have q2 : gi < s3.gens.size := (Array.getElem?_eq_some_iff.mp hx).1
            omega
          have hx4 := setGen_at (x := (End.susp v false l k' (wlc S (cxOf (L2.CX X.prog X.w) X.prog X.w X.K X.mg X.base N qual scope f cdv X.A.in1 X.stack sT H3 EX0).env) p
            [.ret kf none false [] (.func S.body (cxOf (L2.CX X.prog X.w) X.prog X.w X.K X.mg X.base N qual scope f cdv X.A.in1 X.stack sT H3 EX0).env) p' []]).genState) hgi
          have hst4 : GSt S (envOfC qual scope L f cdv) false (End.susp v false l k' (wlc S (cxOf (L2.CX X.prog X.w) X.prog X.w X.K X.mg X.base N qual scope f cdv X.A.in1 X.stack sT H3 EX0).env) p
            [.ret kf none false [] (.func S.body (cxOf (L2.CX X.prog X.w) X.prog X.w X.K X.mg X.base N qual scope f cdv X.A.in1 X.stack sT H3 EX0).env) p' []]).genState := by
            have q : GSt S (envOfC qual scope sT.heap.objs.size f cdv) false (End.susp v false l k' (wlc S (envOfC qual scope sT.heap.objs.size f cdv)) p [.ret kf none false [] (.func S.body (envOfC qual scope sT.heap.objs.size f cdv)) p' []]).genState := ⟨k', l, p, kf, p', rfl, hk2, hkf⟩
            show GSt S (envOfC qual scope L f cdv) false (End.susp v false l k' (wlc S (envOfC qual scope sT.heap.objs.size f cdv)) p [.ret kf none false [] (.func S.body (envOfC qual scope sT.heap.objs.size f cdv)) p' []]).genState
            rw [eL] at q ⊢
            exact q
          generalize (End.susp v false l k' (wlc S (cxOf (L2.CX X.prog X.w) X.prog X.w X.K X.mg X.base N qual scope f cdv X.A.in1 X.stack sT H3 EX0).env) p
            [.ret kf none false [] (.func S.body (cxOf (L2.CX X.prog X.w) X.prog X.w X.K X.mg X.base N qual scope f cdv X.A.in1 X.stack sT H3 EX0).env) p' []]).genState = y at hx4 hst4 I4 ⊢
          have hsus : isSus y = true := by obtain ⟨_, _, _, _, _, rfl, _⟩ := hst4; rfl
          generalize s4.setGen gi y = s5 at hx4 I4 ⊢
          have Ia4 := I4.pin (a, go) (List.mem_append_right _ (List.mem_append_right _ (by simp)))
          refine go_of Ia4.1 c1 c2 (by decide) ?_
          have rg3' := rg3.mono s3'.lv f4
          dsimp only at e
          cases qt : T xm g3 h1 with
          | none => rw [qt] at e; cases e
          | some rt =>
            rw [qt] at e
            cases rt with
            | ex ee h2 => cases e
            | ok g2 h2 =>
              dsimp only at e
              refine wpAny_passesOwn hp (thn (hush_run kx I4 (fun sA IA => hg.run _ sA σ3 H4 xv v (fun σ' H' => ∃ φ', Fr φ4 φ' H4 H' ∧ Sim X.K φ' h2 H' ∧ Rg X.K φ' H' σ' g2) IA rv ⟨φ4, g3, h1, xm, _, s4', rg3', rx, qt, fun σ' φ' H' f s' gg => ⟨φ', f, s', gg⟩⟩)
                fun _ sA sB ⟨σ', H', J, q⟩ e1 e2 e3 => ⟨σ', H', Inv_like J e1 e2 (e3 J.bare), q⟩) fun _ s6 ⟨⟨σ6, H6, I6, φ6, f6, s6', rg6⟩, hx6⟩ => ?_)
              have hx6 := hx6 gi y hx4 hsus
              cases qb : B g2 h2 with
              | none => rw [qb] at e; cases e
              | some rb =>
                rw [qb] at e
                have f36 : Fr φ1 φ6 H1 H6 := f3.trans (f4.trans f6)
                refine wpAny_passesOwn hp (thn (hush_run kx I6 (fun sA IA => runS hb IA s6' rg6 qb fun ee g5 h5 z σ' C d φ' H' f s' gg re => ?_) fun f' sA sB q e1 e2 e3 => q.like e1 e2 e3) fun fl s7 ⟨q7, hx7⟩ => ?_)
                · subst z
                  cases e
                  exact pp σ' C d φ' H' (f36.trans f) s' gg re
                · have hx7 := hx7 gi y hx6 hsus
                  have again : ∀ {σ7 : L2.St} {φ7 : Ph} {H7 : Hp} {g5 : Sg} {h5 : Mh}, Inv X (pins ++ [(a, go), (L, oL2)]) σ7 H7 s7 → Fr φ6 φ7 H6 H7 → Sim X.K φ7 h5 H7 → Rg X.K φ7 H7 σ7 g5 → forG G T B n false gg1 g5 h5 = some r →
                      ∃ m, m < n + 1 ∧ LI X.K X pins φ1 H1 a L gi go scope N (envOfC qual scope L f cdv) S G T B r m s7 := fun {σ7 φ7 H7 g5 h5} I7 f7 s7' rg7 e7 =>
                    ⟨n, Nat.lt_succ_self n, false, oL2, σ7, σ4, H7, φ7, g5, gg1, h5, y, I7, f36.trans f7, s7', rg7, (rg4.mono s4'.lv (f6.trans f7)), hO2, hx7, hst4, e7⟩
                  cases rb with
                  | nx g5 h5 =>
                    obtain ⟨rfl, σ7, φ7, H7, I7, f7, s7', rg7⟩ := q7
                    exact again I7 f7 s7' rg7 e
                  | ct g5 h5 =>
                    obtain ⟨rfl, σ7, φ7, H7, I7, f7, s7', rg7⟩ := q7
                    exact again I7 f7 s7' rg7 e
                  | bk g5 h5 =>
                    obtain ⟨rfl, σ7, φ7, H7, I7, f7, s7', rg7⟩ := q7
                    cases e
                    exact ⟨σ7, H7, I7.unpinned, pp σ7 φ7 H7 (f36.trans f7) s7' rg7⟩
                  | rt v5 h5 =>
                    obtain ⟨u, v, σ7, φ7, H7, rfl, I7, rv7, f7, s7', rx7⟩ := q7
                    cases e
                    exact ⟨v, σ7, H7, I7.unpinned, rv7, pp v φ7 H7 (f36.trans f7) s7' rx7⟩
                  | ex ee g5 h5 => exact q7.elim
      · obtain ⟨hΦ, hsz⟩ := hΦ
        cases R with
        | yl xm gg1 h1 => exact hΦ.elim
        | en h1 =>
          obtain ⟨rfl, σ4, φ4, H4, J4, f4, s4'⟩ := hΦ
          refine ⟨.inl rfl, fun hh kh => ?_⟩
          cases e
          obtain ⟨oL2, hO2, I4⟩ := back_inv O.sc O.nocell I3 F haL eL eh J4 (s3 := s4.setGen gi .finished) rfl rfl (allBare_setGen J4.bare rfl) hos
          have I5 := I4.unpinned.kept (t' := (s4.setGen gi .finished).toks) kh
          exact wpAny_execs_nil ⟨σ3, H4, I5, pp σ3 φ4 H4 (f3.trans f4) s4' (rg3.mono s3'.lv f4)⟩
end
end Mi
/-! Mi: for over a generator's call, the statement -/
namespace Mi
open PySem PySem.Spec PyProof.Rows L2 Ob StX Gsl
section
variable {X : Cx} {K : PySem.W.Frag} {W : WX} {k p n : Nat} {S : GD} {G : GM} {T : MT} {B : MS} {tg : Expr} {body : List Stmt} {e : Expr} {es : List Expr} {As : Sg → M (List MV)} {x : Str} {np pos pos' : Pos}
theorem s_forG (ek : X.K = K) (D : GnM X.prog X.w K X.mg X.base k (He.ga K x) S G p n) (hr : Room (k + 2) X.A) (kx : KeepsG X) (hp : PassesOwn (model X.prog X.w) X.A X.env X.xe) (hc : X.calm = true) (hm : X.mg x = some (.ref (He.ga K x))) (hk : PySem.W.keepIn K (.ref (He.ga K x)) = true)
    (ha : PA X (e :: es) (tMA K W As)) (hg : PG X tg (tgM K W T)) (hb : PSs X body (tS K W B)) (hgl : Gl X x := by rfl) (hdb : (x == ("__debug__" : Str)) = false := by decide) (he : starEach (e :: es) X.env = (false, eval e X.env) :: starEach es X.env := by rfl) (hpl : (backTo pos' (starEach es X.env)).any (·.1) = false := by rfl)
    (hs : ∀ v, foldedSetIterable (.Call (.Name x np) (e :: es) [] pos') X.env v = pure v := by intro _; rfl) : PS X (.For tg (.Call (.Name x np) (e :: es) [] pos') body [] pos) (tS K W (sForG G p n As T B)) := by
  subst ek
  obtain ⟨name, qual, params, scope, dV, kV, doc, pm, cdv, ct, oc, an, od, osl, N, ps, lk, hcd, hbd, O, rfl, rfl⟩ := D
  refine ⟨fun pins s σ H D I ⟨φ, g, h, r, hs1, hgg, e1, pp⟩ => ?_⟩
  refine wpAny_For (wpAny_Call_Name_kw (ld_glob I hgl hm ?_ hdb)) hs
  refine PySem.W.callWith_K (h₀ := X.base) I.ok.mod.kin hk (thn (ha.run pos' pins s σ H (fun vs H1 => ∃ φ1 h1 xs, Sim X.K φ1 h1 H1 ∧ Rg X.K φ1 H1 σ g ∧ Rvs X.K φ1 H1 vs xs ∧ (if xs.length = ps.length then forG G T B FUEL true (xs.map some ++ List.replicate (N.length - xs.length) none) else fun _ _ => none) g h1 = some r ∧ Ps X.K W φ1 H1 D r) I
    (bindS hs1 hgg e1 pp fun xs h1 vs φ1 H1 f1 s1 g1 r1 e2 p1 => ⟨φ1, h1, xs, s1, g1, r1, e2, p1⟩)) fun us s1 ⟨vs, H1, I1, r1, φ1, h1, xs, hs2, hg2, rx, e2, p2⟩ => ⟨I1.kIn, ?_⟩) he hpl
  split at e2
  · rename_i hl
    have l1 : vs.length = ps.length := rx.length.trans hl
    have l2 : us.length = ps.length := r1.length.symm.trans l1
    have hbd' := hbd s1 us I1.kIn (by rw [List.append_nil]; exact l2)
    rw [List.append_nil] at hbd'
    refine run_gen (k := k) lk hcd O.sc O.nocell (hr.mono (Nat.le_add_right k 2)) hbd' I1 l1 r1 fun a gi go oL s2 haL hgo J hO hgs => ?_
    have Ja := J.pin (a, go) (List.mem_append_right _ (List.mem_append_right _ (by simp)))
    obtain ⟨c1, ⟨nm, qn, c2⟩, c3⟩ := id hgo
    refine wpAny_pyIter_gen ⟨go, nm, qn, Ja.1, c1, c2, c3⟩ ?_
    exact gen_loop O hr kx hp hc hg hb hgo haL (far_of I1) p2 FUEL s2 ⟨true, oL, σ, L2.start N vs, H1, φ1, g, _, h1, _, J, Fr.refl _ _, hs2, hg2, rg_start rx, hO, hgs, rfl, e2⟩
  · cases e2
end
end Mi
/-! Mi: a generator def of the text -/
namespace Mi
open PySem PySem.Spec PyProof.Rows L2 Ob StX Gsl
/-- a body's i-th statement is the while, the j-th of its body the yield -/
def GD.of (l : List Stmt) (i j : Nat) : GD := match l.drop i with
  | .While t b _ wp :: post => match b.drop j with
    | .Expr (.Yield (some y) yp) ypos :: b2 => ⟨l.take i, t, b.take j, y, yp, ypos, b2, wp, post⟩
    | _ => ⟨l, t, b, t, wp, wp, b, wp, post⟩
  | _ => ⟨l, .Constant .none 0 ⟨0, 0, 0, 0⟩, [], .Constant .none 0 ⟨0, 0, 0, 0⟩, ⟨0, 0, 0, 0⟩, ⟨0, 0, 0, 0⟩, [], ⟨0, 0, 0, 0⟩, []⟩
structure GB0 (K : PySem.W.Frag) (X : Cx) (S : GD) (G : GM) : Prop where
  pre : PSs X S.pre (tS K W0 G.pre)
  test : PT X S.test (tMT K W0 G.c)
  b1 : PSs X S.b1 (tS K W0 G.b1)
  y : PE X S.y (tM K W0 G.y)
  b2 : PSs X S.b2 (tS K W0 G.b2)
  post : PSs X S.post (tS K W0 G.post)
theorem cx_false {P : Program} {w : World} {outer : List Env} {H : Hp} {s s' : Shared} {u : Value} (c : L2.CX P w outer H s EX0 u s') : False := by
  obtain ⟨a, B, H', cls, d, _, _, _, _, _, _, _, e⟩ := c
  exact e
section
variable {fa : List He.Fa} {fn : List He.DefD} {ts : List He.Tab} {ex : PySem.W.Frag → Bool} {w : World} {K : PySem.W.Frag} {mg : Str → Option Value} {P : Program} {base : Heap} {k : Nat}
theorem okGn (T : Tp fa fn ts ex w K mg) (i : Nat) {d : He.DefD} {N ps : List Str} {S : GD} {G : GM} (h : fn[i]? = some d) (hd : d.dfl = []) (hk : d.kwd = []) (hbd : d.body = S.body) (sc : L2.GScope N ps d.scope) (nc : ∀ y ∈ d.scope.names, y.2 ≠ .cell)
    (hb : ∀ (kV doc pm : Value) (an : Option Addr) (cdv ct : Value) (us : List Value), us.length = ps.length → bindArgs (PySem.W.fnOf d.name d.qual d.params d.body d.scope .none kV doc pm an cdv ct) ⟨us, []⟩ = pure (ps.zip us))
    (hbody : ∀ (cdv : Value) (A : Around) (outer : List Env) (s : Shared) (H : Hp), Room k (A.deeper (envOfC d.qual d.scope s.heap.objs.size (He.fAd K d.at_) cdv)) →
      Takes (cxOf (L2.CX P w) P w K mg base N d.qual d.scope (He.fAd K d.at_) cdv A outer s H EX0) W0 → PassesOwn (model P w) (A.deeper (envOfC d.qual d.scope s.heap.objs.size (He.fAd K d.at_) cdv)) (envOfC d.qual d.scope s.heap.objs.size (He.fAd K d.at_) cdv) (cxOf (L2.CX P w) P w K mg base N d.qual d.scope (He.fAd K d.at_) cdv A outer s H EX0).xe →
      GB0 K (cxOf (L2.CX P w) P w K mg base N d.qual d.scope (He.fAd K d.at_) cdv A outer s H EX0) S G) : GnM P w K mg base k (He.fAd K d.at_) S G ps.length N.length := by
  obtain ⟨fd, F⟩ := T.c.def_ i h
  have e1 : d.dvs K = [] := by unfold He.DefD.dvs; rw [hd]; rfl
  have e2 : d.kws K = [] := by unfold He.DefD.kws; rw [hk]; rfl
  rw [e1, e2] at F
  obtain ⟨oc, od, dV, kV, doc, pm, an, cdv, ct, osl, rfl, lk, hcd, hD, hK⟩ := F.ex
  have hdV : dV = .none := by
    rcases hD with ⟨_, e⟩ | ⟨e, _⟩
    · exact e
    · exact absurd rfl e
  subst hdV
  rw [hbd] at lk
  refine ⟨d.name, d.qual, d.params, d.scope, .none, kV, doc, pm, cdv, ct, oc, an, od, osl, N, ps, lk, hcd, Binds.all fun us hl => ?_, ⟨sc, nc, fun A outer s H hr => ?_⟩, rfl, rfl⟩
  · have q := hb kV doc pm an cdv ct us hl
    rw [hbd] at q
    exact q
  · obtain ⟨b1, b2, b3, b4, b5, b6⟩ := hbody cdv A outer s H hr (takes_of (E := EX0) rfl rfl rfl rfl) (passes_of rfl)
    refine ⟨b1, b2, b3, b4, b5, b6, sc.co, ?_, fun A' Φ c fs s' e u ho hx => ?_⟩
    · show (d.scope.kind == .module && _) = false
      rw [sc.kind]
      rfl
    · refine go_false (t := leaving (cxOf (L2.CX P w) P w K mg base N d.qual d.scope (He.fAd K d.at_) cdv A outer s H EX0).env e) ?_
      rw [ho]
      exact wpAny_mono hx (fun _ _ c => cx_false c) fun _ _ c => cx_false c
end
end Mi
/-! Mi: x not in range(n) -/
namespace Mi
open PySem PySem.Spec PyProof.Rows L2 Ob StX
theorem set_mid {α : Type} {l : List α} {i j : Nat} {a b x : α} (h : i ≠ j) : ((l.set i a).set j x).set i b = (l.set j x).set i b := by
  rw [List.set_comm _ _ h, List.set_set]
section
variable {X : Cx} {K : PySem.W.Frag} {W : WX} {a b : Expr} {A : Sg → M MV} {Bs : Sg → M (List MV)} {p pos pos' : Pos}
theorem cr_rng1 : CallR X (.type "range") (fun vs H Q => ∃ j, vs = [V.int j] ∧ ∀ p, H p = none → Q (.ref p) (upd H p (.rng 0 j))) := by
  intro pins s σ H vs us Q I r h
  obtain ⟨j, rfl, q⟩ := h
  cases r with
  | cons r rr =>
    cases rr
    obtain ⟨t, rfl⟩ := r
    refine call_range_1 ⟨.ref s.heap.objs.size, upd H s.heap.objs.size (.rng 0 j), I.laid (t' := s.toks + 2) (fun b o e => Heap.get?_push_of_some _ e) (Nat.le_refl _) ?_, rfl, q _ (I.hok.fresh (Nat.le_refl _))⟩
    exact ⟨_, _, _, Heap.get?_push_size _ rfl⟩
theorem op_nin_rng : OpR X (compareOp .NotIn) (fun x y H Q => ∃ i a lo hi, x = V.int i ∧ y = V.ref a ∧ H a = some (.rng lo hi) ∧ Q (.bl (!decide (lo ≤ i ∧ i < hi))) H) := by
  intro pins s σ H x y v u Q I rx ry h
  obtain ⟨i, a, lo, hi, rfl, rfl, ha, q⟩ := h
  obtain ⟨k, rfl⟩ := rx
  have eu : u = Value.ref a := ry
  subst eu
  obtain ⟨t1, t2, t3, ho⟩ := I.hok a _ ha
  show wpAny _ _ (do return Value.bool (!(← contains (Value.ref a) (Value.int i k)))) _ _ s
  refine wpAny_bind (wpAny_contains_slot (T := "range") ⟨_, ho, rfl⟩ F.slot_range_contains (call_meets F.slot_range_contains ⟨_, ho, rfl⟩ F.entry_range_contains (F.args_range_contains_2 _ _) (q_contains a lo hi i t1 t2 t3 k)
    ⟨ho, wpAny_truthy_bool (wpAny_pure ⟨.bl _, H, I, rfl, ?_⟩)⟩))
  rw [place1]
  exact q
def mNotR (x : MV) (ys : List MV) : M MV := fun h => match x, ys with
  | .int i, [.int j] => some (.ok (.bl (!decide (0 ≤ i ∧ i < j))) h)
  | _, _ => none
theorem t_notR (hg : Gl X "range") (hm : X.mg "range" = none) (ha : PE X a (tM K W A)) (hb : PA X [b] (tMA K W Bs)) (hs : starEach [b] X.env = (false, eval b X.env) :: starEach [] X.env := by rfl) :
    PT X (.Compare a [.NotIn] [.Call (.Name "range" p) [b] [] pos'] pos) (tMT K W (tsb (x2 mNotR A Bs))) :=
  ptw (pt_cmpR op_nin_rng ha (pe_callTy cr_rng1 hg hm boot_range hb (by decide) (by decide) hs rfl) rfl) fun σ H Q q => by
    obtain ⟨φ, g, h, R, hs1, hgg, e, pp⟩ := tsb_of σ H Q q
    refine bindG hs1 hgg e pp rfl fun x h1 v φ1 H1 f1 s1 g1 r1 e1 p1 => bindG s1 g1 e1 p1 rfl fun ys h2 ws φ2 H2 f2 s2 g2 r2 e2 p2 => ?_
    unfold mNotR at e2
    split at e2
    · rename_i i j
      cases e2
      have r1' := s1.rv f2 r1
      obtain ⟨w, rfl, r3⟩ := one_inv r2
      unfold Rv at r1' r3
      subst r1' r3
      refine ⟨j, rfl, fun q hq => ⟨_, _, _, _, rfl, rfl, upd_same, ?_⟩⟩
      exact p2 _ φ2 _ (Fr.out hq) (s2.out hq) (by unfold Rv; rfl)
    · cases e2
end
end Mi
/-! Mi: zip of two lists or two tuples; isinstance of the caught exception -/
namespace Mi
open PySem PySem.Spec PyProof.Rows L2 Ob StX
def itZip (a b : MIt) : MIt := fun i h => match a i h, b i h with
  | some (some x), some (some y) => some (some (.tup [x, y]))
  | some none, some _ => some none
  | some _, some none => some none
  | _, _ => none
section
variable {K : PySem.W.Frag} {φ : Ph} {h : Mh} {H : Hp} {a b : Addr} {it it2 : MIt}
theorem itZip_list (k : relIt K φ H (Itl K a) it) (k' : relIt K φ H (Itl K b) it2) : relIt K φ H (Itz K a b) (itZip it it2) := fun φ' H' h' i f s' => by
  obtain ⟨k1, k2⟩ := k φ' H' h' i f s'
  obtain ⟨l1, l2⟩ := k' φ' H' h' i f s'
  unfold itZip
  cases q : it i h' with
  | none => exact ⟨fun e => (by cases e), fun x e => (by cases e)⟩
  | some o =>
    cases r : it2 i h' with
    | none => cases o <;> exact ⟨fun e => (by cases e), fun x e => (by cases e)⟩
    | some p =>
      have sq : ∀ {c : Addr} {j : MIt} {o : Option MV}, (j i h' = some none → (Itl K c).stop i H') → (∀ x, j i h' = some (some x) → (Itl K c).go i H' ∧ ∀ v H'', (Itl K c).yld i H' v H'' → Fr φ' φ' H' H'' ∧ Sim K φ' h' H'' ∧ Rv K φ' H'' v x) → j i h' = some o → ∃ xs : List V, SqL K H' c xs ∧ (o = none → xs.length ≤ i) := fun {c j o} m1 m2 e => by
        cases o with
        | none => obtain ⟨xs, q1, q2⟩ := m1 e; exact ⟨xs, q1, fun _ => q2⟩
        | some x => obtain ⟨⟨xs, v, q1, q2⟩, _⟩ := m2 x e; exact ⟨xs, q1, fun z => nomatch z⟩
      obtain ⟨xs, qx, hx⟩ := sq k1 k2 q
      obtain ⟨ys, qy, hy⟩ := sq l1 l2 r
      cases o with
      | none => exact ⟨fun _ => ⟨xs, ys, qx, qy, .inl (hx rfl)⟩, fun x e => (by cases e)⟩
      | some x =>
        cases p with
        | none => exact ⟨fun _ => ⟨xs, ys, qx, qy, .inr (hy rfl)⟩, fun x e => (by cases e)⟩
        | some y =>
          refine ⟨fun e => (by cases e), fun z e => ?_⟩
          cases e
          obtain ⟨⟨xs, v, q1, q2⟩, k4⟩ := k2 x q
          obtain ⟨⟨ys, u, r1, r2⟩, l4⟩ := l2 y r
          refine ⟨⟨xs, ys, v, u, q1, r1, q2, r2⟩, fun w H'' yy => ?_⟩
          obtain ⟨T, v', u', rfl, n, rfl, y1, y2⟩ := yy
          obtain ⟨_, _, rv⟩ := k4 v' H' ⟨rfl, y1⟩
          obtain ⟨_, _, ru⟩ := l4 u' H' ⟨rfl, y2⟩
          refine ⟨Fr.out n, s'.out n, ?_⟩
          unfold Rv
          exact ⟨T, [v', u'], rfl, upd_same, rvs_cons (s'.rv (Fr.out n) rv) (rvs_cons (s'.rv (Fr.out n) ru) rvs_nil)⟩
theorem itZip_tup (k : relIt K φ H (Itt K a) it) (k' : relIt K φ H (Itt K b) it2) : relIt K φ H (RZ.ItzT K a b) (itZip it it2) := fun φ' H' h' i f s' => by
  obtain ⟨k1, k2⟩ := k φ' H' h' i f s'
  obtain ⟨l1, l2⟩ := k' φ' H' h' i f s'
  unfold itZip
  cases q : it i h' with
  | none => exact ⟨fun e => (by cases e), fun x e => (by cases e)⟩
  | some o =>
    cases r : it2 i h' with
    | none => cases o <;> exact ⟨fun e => (by cases e), fun x e => (by cases e)⟩
    | some p =>
      have sq : ∀ {c : Addr} {j : MIt} {o : Option MV}, (j i h' = some none → (Itt K c).stop i H') → (∀ x, j i h' = some (some x) → (Itt K c).go i H' ∧ ∀ v H'', (Itt K c).yld i H' v H'' → Fr φ' φ' H' H'' ∧ Sim K φ' h' H'' ∧ Rv K φ' H'' v x) → j i h' = some o → ∃ xs : List V, SqT K H' c xs ∧ (o = none → xs.length ≤ i) := fun {c j o} m1 m2 e => by
        cases o with
        | none => obtain ⟨xs, q1, q2⟩ := m1 e; exact ⟨xs, q1, fun _ => q2⟩
        | some x => obtain ⟨⟨xs, v, q1, q2⟩, _⟩ := m2 x e; exact ⟨xs, q1, fun z => nomatch z⟩
      obtain ⟨xs, qx, hx⟩ := sq k1 k2 q
      obtain ⟨ys, qy, hy⟩ := sq l1 l2 r
      cases o with
      | none => exact ⟨fun _ => ⟨xs, ys, qx, qy, .inl (hx rfl)⟩, fun x e => (by cases e)⟩
      | some x =>
        cases p with
        | none => exact ⟨fun _ => ⟨xs, ys, qx, qy, .inr (hy rfl)⟩, fun x e => (by cases e)⟩
        | some y =>
          refine ⟨fun e => (by cases e), fun z e => ?_⟩
          cases e
          obtain ⟨⟨xs, v, q1, q2⟩, k4⟩ := k2 x q
          obtain ⟨⟨ys, u, r1, r2⟩, l4⟩ := l2 y r
          refine ⟨⟨xs, ys, v, u, q1, r1, q2, r2⟩, fun w H'' yy => ?_⟩
          obtain ⟨T, v', u', rfl, n, rfl, y1, y2⟩ := yy
          obtain ⟨_, _, rv⟩ := k4 v' H' ⟨rfl, y1⟩
          obtain ⟨_, _, ru⟩ := l4 u' H' ⟨rfl, y2⟩
          refine ⟨Fr.out n, s'.out n, ?_⟩
          unfold Rv
          exact ⟨T, [v', u'], rfl, upd_same, rvs_cons (s'.rv (Fr.out n) rv) (rvs_cons (s'.rv (Fr.out n) ru) rvs_nil)⟩
end
/-- zip(x, y) of two lists (1) or two tuples (0) -/
def iZipK (k : Nat) (xs : List MV) : M MIt := fun h => match xs with
  | [x, y] => match iKind k x h, iKind k y h with
    | some (.ok it _), some (.ok it2 _) => some (.ok (itZip it it2) h)
    | _, _ => none
  | _ => none
def iZip (xs : List MV) : M MIt := fun h => match iZipK 0 xs h with
  | some r => some r
  | none => iZipK 1 xs h
section
variable {X : Cx} {K : PySem.W.Frag} {W : WX} {a b : Expr} {As : Sg → M (List MV)} {pos : Pos}
theorem i_zip {p tpos : Pos} {elts : List Expr} {kk : Nat} (ek : X.K = K) (hm : X.mg "zip" = none) (ha : PA X [a, b] (tMA K W As)) (hg : Gl X "zip" := by rfl) (hs : starEach [a, b] X.env = (false, eval a X.env) :: starEach [b] X.env := by rfl) (hpl : (backTo pos (starEach [b] X.env)).any (·.1) = false := by rfl) :
    PI X (.Tuple elts kk tpos) (.Call (.Name "zip" p) [a, b] [] pos) (tI K W (x1 iZip As)) := by
  subst ek
  refine PIw (RZ.pi_zipA hg hm ha hs hpl) fun σ H R ⟨φ, g, h, r, hs, hg, e, p⟩ => bindG hs hg e p rfl fun x h1 v φ1 H1 f1 s1 g1 r1 e1 p1 => ?_
  unfold iZip at e1
  split at e1
  · rename_i rr q
    unfold iZipK at q
    split at q
    · rename_i x y
      obtain ⟨u, w, rfl, rx, ry⟩ := two_inv r1
      split at q
      · rename_i it h2 it2 h3 q1 q2
        cases q
        cases e1
        obtain ⟨b1, it', rfl, e2, ⟨xs, qx⟩, k⟩ := kind0_ok s1 rx q1
        obtain ⟨b2, it2', rfl, e3, ⟨ys, qy⟩, k'⟩ := kind0_ok s1 ry q2
        cases e2
        cases e3
        exact ⟨b1, b2, xs, ys, rfl, .inr ⟨qx, qy, i_one (x := ()) s1 (itZip_tup k k') p1⟩⟩
      · cases q
    · cases q
  · unfold iZipK at e1
    split at e1
    · rename_i x y
      obtain ⟨u, w, rfl, rx, ry⟩ := two_inv r1
      split at e1
      · rename_i it h2 it2 h3 q1 q2
        cases e1
        obtain ⟨b1, it', rfl, e2, ⟨xs, qx⟩, k⟩ := kind1_ok s1 rx q1
        obtain ⟨b2, it2', rfl, e3, ⟨ys, qy⟩, k'⟩ := kind1_ok s1 ry q2
        cases e2
        cases e3
        exact ⟨b1, b2, xs, ys, rfl, .inl ⟨qx, qy, i_one (x := ()) s1 (itZip_list k k') p1⟩⟩
      · cases e1
    · cases e1
end
/-! ### isinstance(e, c), e the exception that the suite holds -/
open PySem.W in
/-- what an own exception class says of itself -/
def iseB (K : Frag) (c : Str) : Bool := He.eqO (findIn K (.ref (He.ga K c)) "__getattribute__") (some (some (.builtin "BaseException.__getattribute__"))) && (He.eqO (findIn K (.ref (He.ga K c)) "__getattr__") (some none) && (decide (subIn K (.ref (He.ga K c)) (.type "BaseException") = some true) &&
  (hasDictIn K (He.ga K c) && (He.eqO (findIn K (.ref (He.ga K c)) "__class__") (some (some (.builtin "object.__class__"))) && (He.eqO (specialIn K (.builtin "object.__class__") "__get__") (some (some (.builtin "getset_descriptor.__get__"))) && (decide (takesIn K (.builtin "object.__class__") = some true) && decide (mroIn K (He.ga K c) (.type "object") = some true)))))))
theorem iseB_ok {K : PySem.W.Frag} {c : Str} (h : iseB K c = true) : ExcC K (He.ga K c) := by
  obtain ⟨h1, h⟩ := He.ba h
  obtain ⟨h2, h⟩ := He.ba h
  obtain ⟨h3, h⟩ := He.ba h
  obtain ⟨h4, h⟩ := He.ba h
  obtain ⟨h5, h⟩ := He.ba h
  obtain ⟨h6, h⟩ := He.ba h
  obtain ⟨h7, h8⟩ := He.ba h
  exact ⟨He.eqO_ok h1, He.eqO_ok h2, of_decide_eq_true h3, h4, He.eqO_ok h5, He.eqO_ok h6, of_decide_eq_true h7, of_decide_eq_true h8⟩
theorem isSome_dict {K : PySem.W.Frag} {C : Addr} (h : PySem.W.hasDictIn K C = true) : (PySem.W.clsIn K C).isSome = true := by
  obtain ⟨cd, hc, _⟩ := PySem.W.any_some h
  rw [hc]
  rfl
/-- the caught exception at a, with its own dict known -/
def exD (d : Option Addr) (H : Hp) : Prop := d = none ∨ ∃ dx fs, d = some dx ∧ H dx = some (.xd fs)
theorem inst_of {X : Cx} {pins : List (Addr × Obj)} {σ : L2.St} {H : Hp} {s : Shared} {a C : Addr} {d : Option Addr} {oe : Obj} (I : Inv X pins σ H s) (hget : s.heap.get? a = some oe) (hz : Zc (.ref C) d oe) (hf : ∃ vs, oe.data = .fields vs) (hd : exD d H) : ∃ od, PySem.W.InstAt s.heap a oe C od := by
  obtain ⟨vs, hv⟩ := hf
  have nc : PySem.W.notCls oe = true := by unfold PySem.W.notCls; rw [hv] <;> rfl
  rcases hd with rfl | ⟨dx, fs, rfl, e⟩
  · exact ⟨none, hget, hz.1, nc, by rw [hz.2]; trivial⟩
  · have hx : ObjOk X.prog X.w H s.heap dx (.xd fs) := I.hok dx _ e
    obtain ⟨mA, hns, hr⟩ := hx
    obtain ⟨od, ho, hl⟩ := lookIn_ns hns
    exact ⟨some od, hget, hz.1, nc, by rw [hz.2]; exact ho⟩
def rIsE1 (K : PySem.W.Frag) (D a : Addr) (d : Option Addr) : List V → Hp → VK → Prop := fun xs H Q => ∃ (c : V) (cv : Value) (b : Bool), xs = [.ref a, c] ∧ ClsV c cv ∧ exD d H ∧ PySem.W.kitOne K (.ref D) cv = some b ∧ Q (.bl b) H
def rIsEt (K : PySem.W.Frag) (D a : Addr) (d : Option Addr) : List V → Hp → VK → Prop := fun xs H Q => ∃ (tp : Addr) (cs : List V) (us : List Value) (b : Bool), xs = [.ref a, .ref tp] ∧ H tp = some (.tup cs) ∧ Paired ClsV cs us ∧ exD d H ∧ PySem.W.kitAny K (.ref D) us = some b ∧ Q (.bl b) H
theorem call_isE1 {X : Cx} {a D : Addr} {d : Option Addr} {oe : Obj} {pn : List (Addr × Obj)} (C : ExcC X.K D) (hz : Zc (.ref D) d oe) (hf : ∃ vs, oe.data = .fields vs) : CallR (X.suite a ((a, oe) :: pn)) (.builtin "isinstance") (rIsE1 X.K D a d) := by
  intro pins s σ H xs us Q I r h
  obtain ⟨c, cv, b, rfl, hcv, hd, e, q⟩ := h
  obtain ⟨u1, u2, rfl, r1, r2⟩ := vals2 r
  cases (show u1 = Value.ref a from r1)
  have e2 := hcv.eq r2
  subst e2
  obtain ⟨hget, _⟩ := I.pin (a, oe) (List.mem_append.mpr (.inl List.mem_cons_self))
  obtain ⟨od, J⟩ := inst_of I hget hz hf hd
  exact PySem.W.kia_one (PySem.W.kitx_exc (isSome_dict C.hd) C.hg C.hk C.hs C.ha C.hn C.ht C.hm) I.kIn J e (fun z => nomatch z) fun tk => ⟨.bl b, H, I.tok tk, rfl, q⟩
theorem call_isEt {X : Cx} {a D : Addr} {d : Option Addr} {oe : Obj} {pn : List (Addr × Obj)} (C : ExcC X.K D) (hz : Zc (.ref D) d oe) (hf : ∃ vs, oe.data = .fields vs) : CallR (X.suite a ((a, oe) :: pn)) (.builtin "isinstance") (rIsEt X.K D a d) := by
  intro pins s σ H xs us Q I r h
  obtain ⟨tp, cs, ws, b, rfl, hT, k, hd, e, q⟩ := h
  obtain ⟨u1, u2, rfl, r1, r2⟩ := vals2 r
  cases (show u1 = Value.ref a from r1)
  cases (show u2 = Value.ref tp from r2)
  obtain ⟨hget, _⟩ := I.pin (a, oe) (List.mem_append.mpr (.inl List.mem_cons_self))
  obtain ⟨od, J⟩ := inst_of I hget hz hf hd
  obtain ⟨_, its, rv, o, h1, h2, n, h3⟩ := (show ObjOk X.prog X.w H s.heap tp (.tup cs) from I.hok tp _ hT)
  have e3 := ClsV.all k rv
  subst e3
  obtain ⟨oc, od', dt, sl⟩ := o
  simp only at h2 h3
  subst h2 h3
  exact PySem.W.kia_tup (PySem.W.kitx_exc (isSome_dict C.hd) C.hg C.hk C.hs C.ha C.hn C.ht C.hm) I.kIn J h1 e (fun z => nomatch z) fun tk => ⟨.bl b, H, I.tok tk, rfl, q⟩
def xIsE (a : Addr) (d : Option Addr) (i : Nat) (b : Bool) : Sg → M MV := fun g h => match g[i]? with
  | some (some (.exc a' d' f _)) => if a' = a ∧ d' = d ∧ (f ≠ Str.empty ∨ d = none) then some (.ok (.bl b) h) else none
  | _ => none
section
variable {X : Cx} {K : PySem.W.Frag} {W : WX}
theorem exD_of {φ : Ph} {H : Hp} {v : V} {a : Addr} {d : Option Addr} {f : Str} {x : MV} (r : Rv K φ H v (.exc a d f x)) (h : f ≠ Str.empty ∨ d = none) : v = .ref a ∧ exD d H := by
  unfold Rv at r
  obtain ⟨rfl, r⟩ := r
  refine ⟨rfl, ?_⟩
  rcases h with h | h
  · rcases r with r | ⟨dx, u, ed, ea, _⟩
    · exact absurd r h
    · exact .inr ⟨dx, _, ed, ea⟩
  · exact .inl h
theorem m_isE1 {a : Addr} {oe : Obj} {d : Option Addr} {pn : List (Addr × Obj)} {y c0 : Str} {i : Nat} {b : Bool} {ce : Expr} {cV : V} {cv : Value} {p p' pos : Pos} (ek : X.K = K) (hb : iseB K c0 = true) (hz : Zc (.ref (He.ga K c0)) d oe) (hf : ∃ vs, oe.data = .fields vs)
    (kt : PySem.W.kitOne K (.ref (He.ga K c0)) cv = some b) (hcl : ClsV cV cv) (hg : Gl (X.suite a ((a, oe) :: pn)) "isinstance") (hm : X.mg "isinstance" = none)
    (he : PE (X.suite a ((a, oe) :: pn)) (.Name y p') (tVar i)) (hc : PE (X.suite a ((a, oe) :: pn)) ce (tC cV))
    (he1 : starEach [ce] (X.suite a ((a, oe) :: pn)).env = (false, eval ce (X.suite a ((a, oe) :: pn)).env) :: starEach [] (X.suite a ((a, oe) :: pn)).env := by rfl) (he2 : starEach (.Name y p' :: [ce]) (X.suite a ((a, oe) :: pn)).env = (false, eval (.Name y p') (X.suite a ((a, oe) :: pn)).env) :: starEach [ce] (X.suite a ((a, oe) :: pn)).env := by rfl) (hpl : (backTo pos (starEach [ce] (X.suite a ((a, oe) :: pn)).env)).any (·.1) = false := by rfl) :
    PE (X.suite a ((a, oe) :: pn)) (.Call (.Name "isinstance" p) [.Name y p', ce] [] pos) (tM K W (xIsE a d i b)) := by
  subst ek
  refine pew (pe_callB (call_isE1 (iseB_ok hb) hz hf) hg hm rfl (pa_cons he (pa_cons hc pa_nil he1) he2) (by decide) (by decide) he2 hpl) fun σ H Q ⟨φ, g, h, R, hs, hgg, e, pp⟩ => ?_
  unfold xIsE at e
  split at e
  · rename_i a' d' f' x hgi
    split at e
    · rename_i hh
      obtain ⟨rfl, rfl, hne⟩ := hh
      cases e
      obtain ⟨v, hv, rv⟩ := hgg.get i _ hgi
      obtain ⟨rfl, hd⟩ := exD_of rv hne
      exact ⟨_, hv, cV, cv, b, rfl, hcl, hd, kt, end_pu hs (by unfold Rv; rfl) pp⟩
    · cases e
  · cases e
/-- class names in a tuple -/
inductive ClsA (X : Cx) : List Expr → List V → List Value → Prop
  | nil : ClsA X [] [] []
  | cons {e : Expr} {es : List Expr} {c : V} {cs : List V} {u : Value} {us : List Value} (h : PE X e (tC c)) (k : ClsV c u) (r : ClsA X es cs us) (hs : starEach (e :: es) X.env = (false, eval e X.env) :: starEach es X.env := by rfl) : ClsA X (e :: es) (c :: cs) (u :: us)
theorem ClsA.pa {X : Cx} : ∀ {es : List Expr} {cs : List V} {us : List Value}, ClsA X es cs us → PA X es (fun _ H Q => Q cs H)
  | _, _, _, .nil => pa_nil
  | _, _, _, .cons h k r hs => pa_cons h r.pa hs
theorem ClsA.paired {X : Cx} : ∀ {es : List Expr} {cs : List V} {us : List Value}, ClsA X es cs us → Paired ClsV cs us
  | _, _, _, .nil => .nil
  | _, _, _, .cons h k r hs => .cons k r.paired
theorem exD.upd {d : Option Addr} {H : Hp} {p : Addr} {o : HO} (h : exD d H) (hp : H p = none) : exD d (upd H p o) := by
  rcases h with h | ⟨dx, fs, e1, e2⟩
  · exact .inl h
  · exact .inr ⟨dx, fs, e1, by rw [upd_ne (ne_of_none e2 hp)]; exact e2⟩
theorem m_isEt {a : Addr} {oe : Obj} {d : Option Addr} {pn : List (Addr × Obj)} {y c0 : Str} {i kk : Nat} {b : Bool} {es : List Expr} {cs : List V} {us : List Value} {p p' tp pos : Pos} (ek : X.K = K) (hb : iseB K c0 = true) (hz : Zc (.ref (He.ga K c0)) d oe) (hf : ∃ vs, oe.data = .fields vs)
    (kt : PySem.W.kitAny K (.ref (He.ga K c0)) us = some b) (hl : cs.length ≤ 1000) (hcl : ClsA (X.suite a ((a, oe) :: pn)) es cs us) (hg : Gl (X.suite a ((a, oe) :: pn)) "isinstance") (hm : X.mg "isinstance" = none)
    (he : PE (X.suite a ((a, oe) :: pn)) (.Name y p') (tVar i))
    (he1 : starEach [.Tuple es kk tp] (X.suite a ((a, oe) :: pn)).env = (false, eval (.Tuple es kk tp) (X.suite a ((a, oe) :: pn)).env) :: starEach [] (X.suite a ((a, oe) :: pn)).env := by rfl) (he2 : starEach (.Name y p' :: [.Tuple es kk tp]) (X.suite a ((a, oe) :: pn)).env = (false, eval (.Name y p') (X.suite a ((a, oe) :: pn)).env) :: starEach [.Tuple es kk tp] (X.suite a ((a, oe) :: pn)).env := by rfl) (hpl : (backTo pos (starEach [.Tuple es kk tp] (X.suite a ((a, oe) :: pn)).env)).any (·.1) = false := by rfl) :
    PE (X.suite a ((a, oe) :: pn)) (.Call (.Name "isinstance" p) [.Name y p', .Tuple es kk tp] [] pos) (tM K W (xIsE a d i b)) := by
  subst ek
  refine pew (pe_callB (call_isEt (iseB_ok hb) hz hf) hg hm rfl (pa_cons he (pa_cons (pe_tup hcl.pa) pa_nil he1) he2) (by decide) (by decide) he2 hpl) fun σ H Q ⟨φ, g, h, R, hs, hgg, e, pp⟩ => ?_
  unfold xIsE at e
  split at e
  · rename_i a' d' f' x hgi
    split at e
    · rename_i hh
      obtain ⟨rfl, rfl, hne⟩ := hh
      cases e
      obtain ⟨v, hv, rv⟩ := hgg.get i _ hgi
      obtain ⟨rfl, hd⟩ := exD_of rv hne
      refine ⟨_, hv, by rw [sizeLine_eq]; omega, fun q hq => ⟨q, cs, us, b, rfl, upd_same, hcl.paired, hd.upd hq, kt, ?_⟩⟩
      exact pp _ φ _ (Fr.out hq) (hs.out hq) (by unfold Rv; rfl)
    · cases e
  · cases e
end
end Mi
/-! Mi: own operators: == and != with any second operand, + * in [] len bool repr by own dunders -/
namespace PySem.W
open PySem PySem.Calls PyProof.Rows Builtin
section
variable {prog : Program} {w : World} {A A₀ : Around} {E : Value → Shared → Prop} {s : Shared} {K : Frag} {x C L f : Addr} {h₀ : Heap} {m : Str → Option Value} {ox : Obj} {od : Option Obj} {b tb : Value}
theorem objNe_K (X : K.In s.heap) (I : InstAt s.heap x ox C od) (hs : findIn K (.ref C) "__eq__" = some (some (.ref f))) (hf : isFn K (.ref f) = true) (hu : A.units < cLine) {Q : Fin → Shared → Prop}
    (h : wpAny (model prog w) A (call (.ref f) [.ref x, b]) (fun v s' => ∃ k, v = .bool k ∧ Q (.done (.ret (.bool (!k)))) s') E s) :
    wpAny (model prog w) A (Builtin.«object.__ne__» ⟨[.ref x, b], []⟩) Q E s := by
  unfold Builtin.«object.__ne__»
  repeat (first
    | with_reducible refine wpAny_cRoomFor hu ?_
    | (refine wpAny_bind (m := callSpecialIfBound? (.ref x) (Str.ofString "__eq__") [b])
        (ifBound_K X I hs hf (wpAny_mono h (fun r s' hr => by
          obtain ⟨k, rfl, hq⟩ := hr
          repeat (first | exact hq | exact wpAny_pure hq | exact wpAny_truthy_bool hq | (refine wpAny_bind (m := truthy (.bool _)) (wpAny_truthy_bool ?_)) | wp_step)) fun _ _ e => e)))
    | wp_step)
theorem check_slot_K {M : Model} {id owner n : String} {rest : List Value} {Q : Unit → Shared → Prop} (X : K.In s.heap) (I : InstAt s.heap x ox C od) (hk : builtinKind id = some .slot) (hs : splitId id = some (owner, n))
    (ha : argsOk id ⟨.ref x :: rest, []⟩) (hob : subIn K (.ref C) (.type owner) = some true) (hq : Q () s) :
    wpAny M A (checkBuiltinCall id ⟨.ref x :: rest, []⟩) Q E s := by
  simp only [checkBuiltinCall, hk, hs]
  refine wpAny_bind (m := isInstance _ _) ?_
  unfold isInstance
  refine wpAny_bind (I.type.here ((looks_subIn X hob).here ?_))
  cases hsig : Manifest.signature? id with
  | none => exact wpAny_pure hq
  | some sig =>
    simp only [argsOk, hsig] at ha
    have h2 : Bind.checkArgs id sig ⟨.ref x :: rest, []⟩ = pure () := ha
    show wpAny M A (Bind.checkArgs id sig ⟨.ref x :: rest, []⟩) Q E _
    rw [h2]; exact wpAny_pure hq
theorem ne_K {Q : Value → Shared → Prop} (hu : A.units + 1 < cLine) (Fr0 : Fr h₀ L s.heap m) (X₀ : K.In h₀) (I : InstAt s.heap x ox C od) (hb : Looks (model prog w) s.heap (typeOf b) tb) (hn : notFirst K C tb = true)
    (hne : findIn K (.ref C) "__ne__" = some (some (.builtin "object.__ne__"))) (hob : subIn K (.ref C) (.type "object") = some true)
    (hs : findIn K (.ref C) "__eq__" = some (some (.ref f))) (hf : isFn K (.ref f) = true)
    (h : wpAny (model prog w) A.in1 (call (.ref f) [.ref x, b]) (fun v s' => ∃ k, v = .bool k ∧ Q (.bool (!k)) s') E s) : wpAny (model prog w) A (richCompare .NotEq (.ref x) b) Q E s := by
  have X := X₀.keeps Fr0.keep
  have one : wpAny (model prog w) A (tryCompare (.ref x) "__ne__" b) (fun r s' => ∃ v, r = some v ∧ Q v s') E s := by
    simp only [tryCompare]
    refine wpAny_bind ?_
    simp only [callSpecialIfBound?, bindSpecialIfBound?]
    refine wpAny_holding (wpAny_bind (wpAny_bind (wpAny_bind (I.type.here ((looks_findIn X hne).here ?_)))))
    have hcall : wpAny (model prog w) A (call (.builtin "object.__ne__") ([.ref x] ++ [b])) (fun v s' => ∃ k, v = Value.bool k ∧ Q (.bool k) s') E s := by
      refine wpAny_call (codeAny_call_builtin F.cmp_object.ne.plain F.cmpEntry_ne (check_slot_K X I F.cmpKind_ne F.cmpSplit_ne (F.cmpArgs_ne _ _) hob
        (objNe_K (A := A.in1) X I hs hf hu (wpAny_mono h (fun v s' hv => ?_) fun _ _ e => e))))
      obtain ⟨k, rfl, hq⟩ := hv
      first | exact ⟨k, rfl, _, rfl, hq⟩ | exact ⟨k, rfl, ⟨_, rfl, hq⟩⟩
    have fin : ∀ {P : Option Value → Shared → Prop}, (∀ k s', Q (.bool k) s' → P (some (.bool k)) s') → wpAny (model prog w) A (call (.builtin "object.__ne__") ([.ref x] ++ [b]) >>= fun v => pure (some v)) P E s := fun hP => by
      refine wpAny_bind (wpAny_mono hcall (fun v s' hv => wpAny_pure ?_) fun _ _ h' => h')
      obtain ⟨k, rfl, hq⟩ := hv
      exact hP k s' hq
    simp only [F.cmp_object.ne.bind]
    refine wpAny_bind (wpAny_askSetting (wpAny_ite ?_))
    split
    · exact wpAny_bind (wpAny_pure (wpAny_pure (fin fun k s' hq => wpAny_pure ⟨_, rfl, hq⟩)))
    · exact wpAny_tryCatch (wpAny_bind (wpAny_pure (wpAny_pure (fin fun k s' hq => wpAny_pure ⟨_, rfl, hq⟩))))
  unfold richCompare
  simp only [oneThing_ref]
  refine wpAny_holding (wpAny_bind (wpAny_cRoomFor (Nat.lt_of_succ_lt hu) ?_))
  rw [cmpInfo_NotEq]
  dsimp only
  refine wpAny_bind (I.type.here (wpAny_bind (hb.here ?_)))
  split
  · rename_i q
    have e : subIn K tb (.ref C) = some false := by
      rcases Bool.or_eq_true_iff.mp hn with e | e
      · rw [beq_iff_eq.mp e] at q; simp at q
      · exact beq_iff_eq.mp e
    refine wpAny_bind ((looks_subIn X e).here ?_)
    simp only [Bool.false_eq_true, if_false]
    refine wpAny_bind (wpAny_mono one (fun r s' z => ?_) fun _ _ e => e)
    obtain ⟨v, rfl, hq⟩ := z
    exact wpAny_pure hq
  · refine wpAny_bind (wpAny_pure ?_)
    simp only [Bool.false_eq_true, if_false]
    refine wpAny_bind (wpAny_mono one (fun r s' z => ?_) fun _ _ e => e)
    obtain ⟨v, rfl, hq⟩ := z
    exact wpAny_pure hq
end
end PySem.W
namespace Mi
open PySem PySem.Spec PyProof.Rows L2 Ob StX PySem.W
def nTys : List String := ["NoneType", "bool", "int", "str", "tuple", "list", "dict"]
def nfB (K : Frag) (c : Str) (cs : List Str) : Bool := (nTys.all fun t => decide (subIn K (.type t) (.ref (He.ga K c)) = some false)) && cs.all fun d => notFirst K (He.ga K c) (.ref (He.ga K d))
def neB (K : Frag) (c : Str) : Bool := He.eqO (findIn K (.ref (He.ga K c)) "__ne__") (some (some (.builtin "object.__ne__"))) && decide (subIn K (.ref (He.ga K c)) (.type "object") = some true)
def Sec (K : Frag) (H : Hp) (c : Str) (y : V) : Prop := (∃ t, TyX K H y (.type t) ∧ subIn K (.type t) (.ref (He.ga K c)) = some false) ∨ ∃ b d dy gs, y = .ref b ∧ H b = some (.ins (He.ga K d) dy gs) ∧ notFirst K (He.ga K c) (.ref (He.ga K d)) = true
section
variable {X : Cx} {K : Frag} {W : WX} {c : Str} {cs : List Str} {k : Nat} {f : Addr} {F : List MV → M MV} {pins : List (Addr × Obj)} {σ : L2.St} {H : Hp} {s : Shared}
theorem Sec.looks {y : V} {u : Value} (S : Sec X.K H c y) (I : Inv X pins σ H s) (r : RelV y u) : ∃ tb, Looks (model X.prog X.w) s.heap (typeOf u) tb ∧ notFirst X.K (He.ga X.K c) tb = true := by
  rcases S with ⟨t, ty, e⟩ | ⟨b, d, dy, gs, rfl, hb, e⟩
  · obtain ⟨P, kx, p, _⟩ := kit_of I r ty
    exact ⟨.type t, kx.ty _ _ I.kIn p, by simp [notFirst, e]⟩
  · obtain rfl : u = Value.ref b := r
    obtain ⟨mB, J', _⟩ := ins_get I.hok hb
    obtain ⟨od', J', _⟩ := J'.look
    exact ⟨_, J'.type, e⟩
def secB (cs : List Str) (y : MV) (h : Mh) : Bool := match insAt y h with
  | some (d, _) => decide (d ∈ cs)
  | none => match tyN y h with
    | some t => decide (t ∈ nTys)
    | none => false
theorem sec_ok {φ : Ph} {h : Mh} {v : V} {y : MV} (nf : nfB K c cs = true) (s : Sim K φ h H) (r : Rv K φ H v y) (e : secB cs y h = true) : Sec K H c v := by
  obtain ⟨n1, n2⟩ := He.ba nf
  unfold secB at e
  split at e
  · rename_i d fs q
    obtain ⟨b, dy, gs, rfl, e2, _, _⟩ := insAt_ok s r q
    exact .inr ⟨b, d, dy, gs, rfl, e2, List.all_eq_true.mp n2 d (of_decide_eq_true e)⟩
  · split at e
    · rename_i t q
      exact .inl ⟨t, tyN_ok s r q, of_decide_eq_true (List.all_eq_true.mp n1 t (of_decide_eq_true e))⟩
    · cases e
theorem own_run {A : Around} {us : List Value} {vs : List V} {Q : VK} (Fn : FnM X.prog X.w X.K X.mg X.base k f F) (hr : Room k A) (e0 : Env0 X.prog X.w X.K X.mg X.base A X.stack s H) (I : Inv X pins σ H s) (r : Vals vs us)
    (h : spM X.K F vs H Q (fun _ _ _ => False)) : wpAny (model X.prog X.w) A (call (.ref f) us) (fun v s' => EP X pins σ Q v s') X.xe s :=
  wpAny_call (codeAny_mono (Fn A X.stack s H us vs Q _ hr e0 r h) fun r s' hq => by
    cases r with
    | error e => exact (takesF e s' (XE.of_call (W := WF) I (fun _ _ _ h => h) hq))
    | ok fl =>
      cases fl with
      | ret u => exact I.after hq
      | next => exact False.elim hq
      | brk => exact False.elim hq
      | cont => exact False.elim hq)
/-- x op y by x's own def, y any -/
def rOwnA (K : Frag) (c : Str) (n : Bool) (F : List MV → M MV) : R2 := fun x y H Q => ∃ a dx fs, x = .ref a ∧ H a = some (.ins (He.ga K c) dx fs) ∧ Sec K H c y ∧ spM K F [x, y] H (fun v H' => ∃ k, v = .bl k ∧ Q (.bl (n ^^ k)) H') (fun _ _ _ => False)
def mEqA (c : Str) (cs : List Str) (n : Bool) (F : List MV → M MV) (x y : MV) : M MV := fun h => match insAt x h with
  | some (c1, _) => if c1 = c ∧ secB cs y h = true then (match F [x, y] h with
    | some (.ok (.bl b) h') => some (.ok (.bl (n ^^ b)) h')
    | _ => none) else none
  | none => none
theorem o_eqA {n : Bool} (nf : nfB K c cs = true) : Op2 K (mEqA c cs n F) (rOwnA K c n F) := fun {W σ φ h H v w x y R Q} s r1 r2 e p => by
  unfold mEqA at e
  split at e
  · rename_i c1 fs1 q1
    split at e
    · rename_i hc
      obtain ⟨rfl, hc⟩ := hc
      obtain ⟨a, dx, fs, rfl, e2, e3, e4⟩ := insAt_ok s r1 q1
      refine ⟨a, dx, fs, rfl, e2, sec_ok nf s r2 hc, ?_⟩
      cases z : F [x, y] h with
      | none => rw [z] at e; cases e
      | some R0 =>
        refine ⟨φ, h, [x, y], R0, s, rvs_cons r1 (rvs_cons r2 rvs_nil), z, ?_⟩
        rw [z] at e
        cases R0 with
        | ex ee h' => cases e
        | ok m h' =>
          cases m with
          | bl b =>
            cases e
            exact fun v φ' H' f' s' rv => ⟨b, by unfold Rv at rv; exact rv, p _ φ' H' f' s' (by unfold Rv; rfl)⟩
          | _ => cases e
    · cases e
  · cases e
theorem op_eqA (ek : X.K = K) (hm : Meth K (He.ga K c) "__eq__" f) (Fn : FnM X.prog X.w K X.mg X.base k f F) (hr : Room k X.A) : OpR X (compareOp .Eq) (rOwnA K c false F) := by
  subst ek
  intro pins s σ H x y v u Q I rx ry h
  obtain ⟨a, dx, fs, rfl, ha, S, hq⟩ := h
  obtain rfl : v = Value.ref a := rx
  obtain ⟨tb, hb, hn⟩ := S.looks I ry
  obtain ⟨mA, J, _⟩ := ins_get I.hok ha
  obtain ⟨od, J, _⟩ := J.look
  obtain ⟨m, hF⟩ := I.fr
  show wpAny _ _ (richCompare .Eq (.ref a) u) _ _ _
  refine PySem.W.cmp_K (op := .Eq) (tb := tb) hr.units0 hF I.ok.mod.kin J hb hn hm.at_ hm.fn ?_
  refine wpAny_mono (own_run (us := [.ref a, u]) (vs := [.ref a, y]) Fn hr I.env0 I (.cons rfl (.cons ry .nil)) hq) (fun w s' z => ?_) fun _ _ x => x
  obtain ⟨z', H', I', rz, b, rfl, qz⟩ := z
  obtain rfl : w = Value.bool b := rz
  exact ⟨.bl b, H', I', rfl, by simpa using qz⟩
theorem op_neA (ek : X.K = K) (ne : neB K c = true) (hm : Meth K (He.ga K c) "__eq__" f) (Fn : FnM X.prog X.w K X.mg X.base k f F) (hr : Room (k + 1) X.A) : OpR X (compareOp .NotEq) (rOwnA K c true F) := by
  subst ek
  intro pins s σ H x y v u Q I rx ry h
  obtain ⟨a, dx, fs, rfl, ha, S, hq⟩ := h
  obtain rfl : v = Value.ref a := rx
  obtain ⟨tb, hb, hn⟩ := S.looks I ry
  obtain ⟨mA, J, _⟩ := ins_get I.hok ha
  obtain ⟨od, J, _⟩ := J.look
  obtain ⟨m, hF⟩ := I.fr
  obtain ⟨n1, n2⟩ := He.ba ne
  show wpAny _ _ (richCompare .NotEq (.ref a) u) _ _ _
  refine PySem.W.ne_K (tb := tb) (by have := hr.units; omega) hF I.ok.mod.kin J hb hn (He.eqO_ok n1) (of_decide_eq_true n2) hm.at_ hm.fn ?_
  refine wpAny_mono (own_run (us := [.ref a, u]) (vs := [.ref a, y]) Fn hr.in1 I.env0.in1 I (.cons rfl (.cons ry .nil)) hq) (fun w s' z => ?_) fun _ _ x => x
  obtain ⟨z', H', I', rz, b, rfl, qz⟩ := z
  obtain rfl : w = Value.bool b := rz
  exact ⟨b, rfl, .bl (!b), H', I', rfl, by simpa using qz⟩
/-! one operand: repr, len, bool -/
def rOwn1 (K : Frag) (c : Str) (F : List MV → M MV) (P : V → Prop) : List V → Hp → VK → Prop := fun xs H Q => ∃ a dx fs, xs = [.ref a] ∧ H a = some (.ins (He.ga K c) dx fs) ∧ spM K F [.ref a] H (fun v H' => P v ∧ Q v H') (fun _ _ _ => False)
def mOwn1 (c : Str) (P : MV → Bool) (F : List MV → M MV) (xs : List MV) : M MV := match xs with
  | [x] => fun h => match insAt x h with
    | some (c1, _) => if c1 = c then (match F [x] h with
      | some (.ok m h') => if P m = true then some (.ok m h') else none
      | _ => none) else none
    | none => none
  | _ => fun _ => none
theorem o_own1 {P : V → Prop} {B : MV → Bool} (hP : ∀ φ H v x, Rv K φ H v x → B x = true → P v) : OpN K (mOwn1 c B F) (rOwn1 K c F P) := fun {W σ φ h H vs xs R Q} s r e p => by
  unfold mOwn1 at e
  split at e
  · rename_i x
    obtain ⟨v, rfl, r1⟩ := one_inv r
    split at e
    · rename_i c1 fs1 q1
      split at e
      · rename_i hc
        subst hc
        obtain ⟨a, dx, fs, rfl, e2, e3, e4⟩ := insAt_ok s r1 q1
        refine ⟨a, dx, fs, rfl, e2, ?_⟩
        cases z : F [x] h with
        | none => rw [z] at e; cases e
        | some R0 =>
          refine ⟨φ, h, [x], R0, s, r, z, ?_⟩
          rw [z] at e
          cases R0 with
          | ex ee h' => cases e
          | ok m h' =>
            dsimp only at e
            split at e
            · rename_i hm
              cases e
              exact fun v φ' H' f' s' rv => ⟨hP _ _ _ _ rv hm, p v φ' H' f' s' rv⟩
            · cases e
      · cases e
    · cases e
  · cases e
def PStr (v : V) : Prop := ∃ z, v = .str z
def PBl (v : V) : Prop := ∃ z, v = .bl z
def PLen (v : V) : Prop := ∃ i : Int, v = .int i ∧ 0 ≤ i ∧ i < 2 ^ 63
def bStr (x : MV) : Bool := match x with
  | .str _ => true
  | _ => false
def bBl (x : MV) : Bool := match x with
  | .bl _ => true
  | _ => false
def bLen (x : MV) : Bool := match x with
  | .int i => decide (0 ≤ i ∧ i < 2 ^ 63)
  | _ => false
theorem pStr_ok : ∀ (φ : Ph) (H : Hp) (v : V) (x : MV), Rv K φ H v x → bStr x = true → PStr v := fun φ H v x r e => by
  cases x <;> first | cases e | skip
  unfold Rv at r; exact ⟨_, r⟩
theorem pBl_ok : ∀ (φ : Ph) (H : Hp) (v : V) (x : MV), Rv K φ H v x → bBl x = true → PBl v := fun φ H v x r e => by
  cases x <;> first | cases e | skip
  unfold Rv at r; exact ⟨_, r⟩
theorem pLen_ok : ∀ (φ : Ph) (H : Hp) (v : V) (x : MV), Rv K φ H v x → bLen x = true → PLen v := fun φ H v x r e => by
  cases x <;> first | cases e | skip
  unfold Rv at r; exact ⟨_, r, of_decide_eq_true e⟩
theorem call_reprO (ek : X.K = K) (hm : Meth K (He.ga K c) "__repr__" f) (Fn : FnM X.prog X.w K X.mg X.base k f F) (hr : Room (k + 1) X.A) : CallR X (.builtin "repr") (rOwn1 K c F PStr) := by
  subst ek
  intro pins s σ H xs us Q I r h
  obtain ⟨a, dx, fs, rfl, ha, hq⟩ := h
  obtain ⟨mA, J, _⟩ := ins_get I.hok ha
  obtain ⟨od, J, _⟩ := J.look
  obtain ⟨m, hF⟩ := I.fr
  obtain rfl := Vals.ref1 r
  refine repr_K (by have := hr.units; have := hr.in1.units0; omega) hF I.ok.mod.kin J hm.at_ hm.fn ?_
  refine wpAny_mono (own_run (us := [.ref a]) (vs := [.ref a]) Fn hr.in1 I.env0.in1 I (.cons rfl .nil) hq) (fun w s' z => ?_) fun _ _ x => x
  obtain ⟨z', H', I', rz, ⟨b, rfl⟩, qz⟩ := z
  obtain ⟨t, rfl⟩ := (show ∃ t, w = Value.str b t from rz)
  exact ⟨.str b, H', I', ⟨t, rfl⟩, qz⟩
theorem m_never {e : Expr} : PE X e (tM K W fun _ _ => none) := ⟨fun pins s σ H Q I ⟨φ, g, h, R, hs, hg, e, p⟩ => by cases e⟩
end
end Mi
/-! Mi: defs behind properties and classmethods: the Hook that sees them too; computed properties; C.m(..) -/
namespace Mi
open PySem PySem.Spec PyProof.Rows L2 Ob StX PySem.W
abbrev AlY : Type := He.AlX × He.AlD
def frY (n : Nat) (g : Addr → Option Obj) : Frag := He.frT g (He5.asA g n)
def obsY (n : Nat) (fa : List He.Fa) (fn : List He.DefD) (ts : List He.Tab) (ex : Frag → Bool) (gn : List He5.DefA) (g : Addr → Option Obj) : AlY := ((He.obsT fa fn ts (frY n g), ex (frY n g)), He5.obsA [] gn (frY n g))
def hookY (n : Nat) (fa : List He.Fa) (fn : List He.DefD) (ts : List He.Tab) (ex : Frag → Bool) (gn : List He5.DefA) : PySem.W.Hook where
  α := AlY
  obs := fun s => obsY n fa fn ts ex gn s.heap.get?
  val := fun w => (He.valX fn ts w, He5.valA gn)
  says := fun w h => ∃ K : Frag, K.In h ∧ He.SaysX fa fn ts [] ex w h K ∧ He5.SaysA [] gn K
  of := fun w s e => ⟨frY n s.heap.get?, He.frT_in, ⟨congrArg (fun z : AlY => z.1.1) e, congrArg (fun z : AlY => z.1.2) e, fun _ h => (by cases h), fun _ h => (by cases h), fun _ h => (by cases h)⟩, congrArg (fun z : AlY => z.2) e⟩
  keeps := fun _ _ _ ⟨K, hK, c, d⟩ k => ⟨K, Frag.In.keeps hK k, ⟨c.t, c.more, c.hd, c.out, fun p hp => k _ _ (c.empty p hp)⟩, d⟩
theorem obsY_eq {n : Nat} {fa : List He.Fa} {fn : List He.DefD} {ts : List He.Tab} {ex : Frag → Bool} {gn : List He5.DefA} {g : Addr → Option Obj} {s : Shared} (h : ∀ a, g a = s.heap.get? a) : obsY n fa fn ts ex gn g = (hookY n fa fn ts ex gn).obs s := by
  have e : g = s.heap.get? := funext h
  rw [e] <;> rfl
structure Ty (fa : List He.Fa) (fn : List He.DefD) (ts : List He.Tab) (ex : Frag → Bool) (gn : List He5.DefA) (w : World) (K : Frag) (mg : Str → Option Value) : Prop extends Tp fa fn ts ex w K mg where
  y : He5.SaysA [] gn K
instance {fa : List He.Fa} {fn : List He.DefD} {ts : List He.Tab} {ex : Frag → Bool} {gn : List He5.DefA} {w : World} {K : Frag} {mg : Str → Option Value} : CoeOut (Ty fa fn ts ex gn w K mg) (Tp fa fn ts ex w K mg) := ⟨Ty.toTp⟩
/-- a def, at any address, bound by position -/
def FnB (P : Program) (w : World) (K : Frag) (mg : Str → Option Value) (base : Heap) (k : Nat) (f : Addr) (F : List MV → M MV) : Prop :=
  ∃ fd ps, FnOk P w K mg base (L2.CX P w) k f fd ps (spM K F) ∧ Binds K fd ps []
section
variable {fa : List He.Fa} {fn : List He.DefD} {ts : List He.Tab} {ex : Frag → Bool} {gn : List He5.DefA} {w : World} {K : Frag} {mg : Str → Option Value} {P : Program} {base : Heap} {k : Nat}
theorem FnB.m {f : Addr} {F : List MV → M MV} (B : FnB P w K mg base k f F) : FnM P w K mg base k f F := by
  obtain ⟨fd, ps, O, hb⟩ := B
  exact (O.raw hb .nil).imp fun vs H Q E z => by rw [List.append_nil]; exact z
theorem okMY (T : Ty fa fn ts ex gn w K mg) (i : Nat) {d : He5.DefA} {N ps : List Str} {B : MS} (h : gn[i]? = some d) (hd : d.dfl = []) (hk : d.kwd = []) (S : FnScope N ps d.scope)
    (hb : ∀ (kV doc pm : Value) (an : Option Addr) (cdv ct : Value) (us : List Value), us.length = ps.length → bindArgs (PySem.W.fnOf d.name d.qual d.params d.body d.scope .none kV doc pm an cdv ct) ⟨us, []⟩ = pure (ps.zip us))
    (hbody : ∀ (cdv : Value) (A : Around) (outer : List Env) (s : Shared) (H : Hp) (E : XK), Room k (A.deeper (envOfC d.qual d.scope s.heap.objs.size (d.at_ K) cdv)) →
      Takes (cxOf (L2.CX P w) P w K mg base N d.qual d.scope (d.at_ K) cdv A outer s H E) (fun c d _ H => E c d H) → PassesOwn (model P w) (A.deeper (envOfC d.qual d.scope s.heap.objs.size (d.at_ K) cdv)) (envOfC d.qual d.scope s.heap.objs.size (d.at_ K) cdv) (cxOf (L2.CX P w) P w K mg base N d.qual d.scope (d.at_ K) cdv A outer s H E).xe →
      PSs (cxOf (L2.CX P w) P w K mg base N d.qual d.scope (d.at_ K) cdv A outer s H E) d.body (tS K (fun c d _ H => E c d H) B)) :
    FnB P w K mg base (k + 1) (d.at_ K) (fnM ps.length N.length B) := by
  obtain ⟨fd, F⟩ := T.y.def_ i h
  have e1 : d.dvs K = [] := by unfold He5.DefA.dvs; rw [hd]; rfl
  have e2 : d.kws K = [] := by unfold He5.DefA.kws; rw [hk]; rfl
  rw [e1, e2] at F
  exact ⟨fd, ps, F.ok (CX := L2.CX P w) (P := P) (w := w) (mg := mg) (base := base) S (fun vs H Q E q => fn_len q) (fun cdv A outer s H vs Q E hr q => ⟨_, hbody cdv A outer s H E hr (takes_of rfl rfl rfl rfl) (passes_of rfl), fn_read q⟩), F.bindsN hb⟩
end
/-! computed properties -/
def gad (K : Frag) (c f : Str) : Addr := match recIn K (He.ma K (He.ga K c) f) "property" with
  | some (.ref g :: _) => g
  | _ => 0
def prpB (K : Frag) (c f : Str) : Bool := He.eqO (findIn K (.ref (He.ga K c)) f) (some (some (.ref (He.ma K (He.ga K c) f)))) && (He.eqO (specialIn K (.ref (He.ma K (He.ga K c) f)) "__get__") (some (some (.builtin "property.__get__"))) && (decide (takesIn K (.ref (He.ma K (He.ga K c) f)) = some true) && (match recIn K (He.ma K (He.ga K c) f) "property" with
  | some (.ref _ :: _) => true
  | _ => false)))
theorem prpB_ok {K : Frag} {c f : Str} (h : prpB K c f = true) : PropOf K (He.ga K c) f (He.ma K (He.ga K c) f) (gad K c f) := by
  obtain ⟨h1, h⟩ := He.ba h
  obtain ⟨h2, h⟩ := He.ba h
  obtain ⟨h3, h4⟩ := He.ba h
  refine ⟨He.eqO_ok h1, He.eqO_ok h2, of_decide_eq_true h3, ?_⟩
  unfold gad
  split at h4
  · rename_i g r e
    rw [e]
    exact ⟨r, rfl⟩
  · cases h4
def mPrp (c : Str) (F : List MV → M MV) (x : MV) : M MV := fun h => match insAt x h with
  | some (c1, _) => if c1 = c then (match F [x] h with
    | some (.ok m h') => some (.ok m h')
    | _ => none) else none
  | none => none
section
variable {X : Cx} {K : Frag} {W : WX} {A : Sg → M MV} {o : Expr} {pos : Pos} {k : Nat} {F : List MV → M MV} {c f : Str}
theorem m_prpC (ek : X.K = K) (cl : Cls K (He.ga K c)) (pb : prpB K c f = true) (Fn : FnB X.prog X.w K X.mg X.base k (gad K c f) F) (hr : Room (k + 1) X.A) (ha : PE X o (tM K W A)) (hb : attributeBase o f X.env (eval o X.env) = eval o X.env) : PE X (.Attribute o f pos) (tM K W (x1 (mPrp c F) A)) := by
  subst ek
  obtain ⟨fd, ps, O, B⟩ := Fn
  exact pew (pe_prop ha cl (prpB_ok pb) O hr B .nil (fun _ _ _ _ _ _ _ ⟨_, _, _, _, _, _, _, _, _, _, _, _, z⟩ => z.elim) (E := fun _ _ _ => False) hb) fun σ H Q ⟨φ, g, h, R, hs, hg, e, p⟩ => bindG hs hg e p rfl fun x h1 v φ1 H1 f1 s1 g1 r1 e1 p1 => by
    unfold mPrp at e1
    split at e1
    · rename_i c1 gs q
      split at e1
      · rename_i hc
        subst hc
        obtain ⟨b, dx, fs, rfl, e2, e3, e4⟩ := insAt_ok s1 r1 q
        cases z : F [x] h1 with
        | none => rw [z] at e1; cases e1
        | some R0 =>
          rw [z] at e1
          cases R0 with
          | ex ee h' => cases e1
          | ok m h' =>
            cases e1
            exact ⟨b, dx, fs, rfl, e2, φ1, h1, [x], _, s1, rvs_cons r1 rvs_nil, z, fun v φ' H' f' s' rv => p1 v φ' H' f' s' rv⟩
      · cases e1
    · cases e1
end
/-! classmethods: C.m(e, ..); in it cls(e, ..) -/
def cmA (K : Frag) (c m : Str) : Addr := He5.wf K (He.ga K c) "classmethod" m
def cmB (K : Frag) (c m : Str) : Bool := He5.wrapB K (He.ga K c) "classmethod" "classmethod.__get__" m && (fnIn K (cmA K c m) && (readsIn K (He.ga K c) (.type "type") && He.eqO (specialIn K (.ref (He.ga K c)) "__getattribute__") (some (some (.builtin "type.__getattribute__")))))
def xMkC (C : Addr) (c : Str) (F : List MV → M MV) (As : Sg → M (List MV)) : Sg → M MV := fun g h => match g[0]? with
  | some (some (MV.raw (V.ref D))) => if D = C then x1 (mMake c F) As g h else none
  | _ => none
section
variable {X : Cx} {K : Frag} {W : WX} {As : Sg → M (List MV)} {e : Expr} {es : List Expr} {pos apos p : Pos} {k : Nat} {F : List MV → M MV} {G : Addr → List MV → M MV} {c m x : Str} {f : Addr}
theorem m_cmeth {pl : Sem Bool} (ek : X.K = K) (cb : cmB K c m = true) (Fn : FnM X.prog X.w K X.mg X.base k (cmA K c m) (G (He.ga K c))) (inv : ∀ C xs h, G C (.raw (.ref C) :: xs) h = F xs h) (hr : Room k X.A) (hm : X.mg c = some (.ref (He.ga K c))) (tk : Takes X W) (ha : PA X (e :: es) (tMA K W As))
    (hg : Gl X c := by rfl) (hd : (c == ("__debug__" : Str)) = false := by decide)
    (hst : starEach (e :: es) X.env = (false, eval e X.env) :: starEach es X.env := by rfl) (hpl : (backTo pos (starEach es X.env)).any (·.1) = false := by rfl)
    (ht : eval (.Call (.Attribute (.Name c p) m apos) (e :: es) [] pos) X.env = (do
      let ov ← eval (.Name c p) X.env
      standAt apos.atName
      let (f, first) ← holding [ov] (getMethod ov m pl)
      callWith pos f first (backTo pos (starEach (e :: es) X.env)) (backToKw pos (keywordEach [] X.env))) := by rfl) :
    PE X (.Call (.Attribute (.Name c p) m apos) (e :: es) [] pos) (tM K W (x1 F As)) := by
  subst ek
  obtain ⟨c1, cb⟩ := He.ba cb
  obtain ⟨c2, cb⟩ := He.ba cb
  obtain ⟨c3, c4⟩ := He.ba cb
  have cm := He5.cmet_of c1 c2
  refine ⟨fun pins s σ H Q I ⟨φ, g, h, R, hs, hgg, e1, pp⟩ => ?_⟩
  refine PySem.W.methodCall_KW (pl := pl) (thn ((pe_glob (v := .ref (He.ga X.K c)) hg hm rfl hd).run pins s σ H (fun v H1 => v = .ref (He.ga X.K c) ∧ H1 = H) I ⟨rfl, rfl⟩) fun u s1 ⟨v, H1, I1, rx, ex, eh⟩ => ?_) ht
  subst ex eh
  obtain rfl : u = Value.ref (He.ga X.K c) := rx
  refine ClX.getmethcm_ok I1 ⟨c3, He.eqO_ok c4⟩ cm fun s2 I2 => ?_
  refine ClX.callwith_cm I2 (ClX.base_none I1 (Nat.le_refl _)) cm.fi (thn (ha.run pos _ s2 σ H1 (fun vs H2 => spM X.K F vs H2 Q fun c d H' => W c d σ H') I2
    (bindG hs hgg e1 pp rfl fun xs h1 vs φ1 H1 f1 s1 g1 r1 e2 p1 => ⟨φ1, h1, xs, R, s1, r1, e2, pg_call p1⟩)) fun us s3 ⟨vs, H2, I3, rv, q2⟩ => ⟨⟨ClX.pin_at I3, I3.kIn⟩, ?_⟩) hst hpl
  obtain ⟨φ2, h2, xs, R2, s2', r2, e2, p2⟩ := q2
  have z : wpAny (model X.prog X.w) X.A (call (.ref s1.heap.objs.size) us) (EP X ((s1.heap.objs.size, PySem.W.methodObj (.ref (cmA X.K c m)) (.ref (He.ga X.K c))) :: pins) σ Q) X.xe s3 :=
    wpAny_call (PySem.W.method_call (ClX.pin_at I3) (run_call (us := .ref (He.ga X.K c) :: us) (vs := .ref (He.ga X.K c) :: vs) Fn hr tk I3 (.cons rfl rv) ⟨φ2, h2, .raw (.ref (He.ga X.K c)) :: xs, R2, s2', rvs_cons (by unfold Rv; rfl) r2, by rw [inv]; exact e2, p2⟩))
  exact thn z fun _ _ y => ClX.unpinE y
theorem m_mkC {a : Expr} {y : Str} (ek : X.K = K) (M : Mk K (He.ga K c) f) (Fn : FnM X.prog X.w K X.mg X.base k f F) (hr : Room (k + 1) X.A) (tk : Takes X W) (hN : X.N[0]? = some y) (hv : Vis X.env.scope y) (ha : PA X (a :: es) (tMA K W As)) (hd : (y == ("__debug__" : Str)) = false := by decide) (hcd : (y == ("__classdict__" : Str)) = false := by decide)
    (he : starEach (a :: es) X.env = (false, eval a X.env) :: starEach es X.env := by rfl) (hpl : (backTo pos (starEach es X.env)).any (·.1) = false := by rfl) : PE X (.Call (.Name y p) (a :: es) [] pos) (tM K W (xMkC (He.ga K c) c F As)) := by
  subst ek
  refine ⟨fun pins s σ H Q I ⟨φ, g, h, R, hs, hgg, e, pp⟩ => ?_⟩
  unfold xMkC at e
  split at e
  · rename_i D e0
    split at e
    · rename_i hD
      subst hD
      obtain ⟨v0, l0, rv0⟩ := hgg.get 0 _ e0
      unfold Rv at rv0
      subst rv0
      obtain ⟨mm, hn, hl⟩ := I.loc
      obtain ⟨u, ru, l⟩ := hl 0 y _ hN l0 hv
      obtain rfl : u = Value.ref (He.ga X.K c) := ru
      have go : wpAny (model X.prog X.w) X.A (callWith pos (.ref (He.ga X.K c)) [] (backTo pos (starEach (a :: es) X.env)) (backToKw pos (keywordEach [] X.env))) (EP X pins σ Q) X.xe s := by
        refine PySem.W.callWith_K (h₀ := X.base) I.ok.mod.kin M.kp (thn (ha.run pos pins s σ H (fun vs H1 => ∃ φ1 h1 xs, Sim X.K φ1 h1 H1 ∧ Rvs X.K φ1 H1 vs xs ∧ mMake c F xs h1 = some R ∧ Pg (Rv X.K) X.K W σ φ1 H1 Q R) I
          (bindG hs hgg e pp rfl fun xs h1 vs φ1 H1 f1 s1 g1 r1 e1 p1 => ⟨φ1, h1, xs, s1, r1, e1, p1⟩)) fun us s1 ⟨vs, H1, I1, r, q⟩ => ⟨I1.kIn, ?_⟩) he hpl
        obtain ⟨φ1, h1, xs, s1, r1, e1, p1⟩ := q
        exact run_mk M Fn hr tk I1 r s1 r1 e1 p1
      rcases l with ⟨hk, hm⟩ | ⟨hk, cc, hc, hcell⟩
      · exact wpAny_Call_Name_kw (wpAny_Name (wpAny_loadName_local I.ok.kind hk hn hm go) hd)
      · rcases hk with hk | hk
        · exact wpAny_Call_Name_kw (wpAny_Name (wpAny_loadName_cell I.ok.kind hk hc hcell go) hd)
        · exact wpAny_Call_Name_kw (wpAny_Name (wpAny_loadName_free I.ok.kind hk hc hcell go hcd) hd)
    · cases e
  · cases e
end
end Mi
/-! Mi: divmod, find with a start, list.reverse; + * in [] bool by own dunders -/
namespace Mi
open PySem PySem.Spec PyProof.Rows L2 Ob StX PySem.W
section
variable {X : Cx} {K : Frag} {W : WX} {c : Str} {cs : List Str} {k : Nat} {f : Addr} {F : List MV → M MV} {pins : List (Addr × Obj)} {σ : L2.St} {H : Hp} {s : Shared}
/-! divmod -/
def mDivmod (xs : List MV) : M MV := fun h => match xs with
  | [.int i, .int j] => if 0 < j ∧ j.natAbs.log2 < 9000 then some (.ok (.tup [.int (i / j), .int (i % j)]) h) else none
  | _ => none
theorem o_divmod : OpN K mDivmod (fun xs H Q => ∃ i j, xs = [.int i, .int j] ∧ CDivP i j ∧ ∀ p, H p = none → Q (.ref p) (upd H p (.tup [.int (i / j), .int (i % j)]))) := fun {W σ φ h H vs xs R Q} s r e p => by
  unfold mDivmod at e
  split at e
  · rename_i i j
    split at e
    · rename_i hc
      cases e
      obtain ⟨v, ws, rfl, r1, r2⟩ := rvs_invr r
      obtain ⟨w, rfl, r3⟩ := one_inv r2
      unfold Rv at r1 r3
      subst r1 r3
      exact ⟨i, j, rfl, ⟨hc.1, PyProof.noPylong_of_log2 hc.2⟩, end_tup s (rvs_cons (by unfold Rv; rfl) (rvs_cons (by unfold Rv; rfl) rvs_nil)) p⟩
    · cases e
  · cases e
/-! text.find(text, start) -/
def mFind3 (x : MV) (ys : List MV) : M MV := fun h => match x, ys with
  | .str a, [.str b, .int i] => some (.ok (.int (Txt.find3 a b i)) h)
  | _, _ => none
theorem o_find3 : OpM K mFind3 (fun x xs H Q => ∃ (a b : Str) (i : Int), x = .str a ∧ xs = [.str b, .int i] ∧ Q (.int (Txt.find3 a b i)) H) := fun {W σ φ h H v x vs xs R Q} s r1 r2 e p => by
  unfold mFind3 at e
  split at e
  · cases e
    obtain ⟨w, ws, rfl, r3, r4⟩ := rvs_invr r2
    obtain ⟨u, rfl, r5⟩ := one_inv r4
    unfold Rv at r1 r3 r5
    subst r1 r3 r5
    exact ⟨_, _, _, rfl, rfl, int_end s p⟩
  · cases e
/-! list.reverse -/
def rRev : V → List V → Hp → VK → Prop := fun x vs H Q => ∃ l xs, x = .ref l ∧ vs = [] ∧ H l = some (.lst xs) ∧ Q .non (upd H l (.lst xs.reverse))
theorem mt_rev : MtM X "list.reverse" rRev := by
  intro pins s σ H x vs v us Q I rx rv h
  obtain ⟨l, xs, rfl, rfl, hH, q⟩ := h
  cases rx
  have hus := rv.zero
  subst hus
  obtain ⟨z, its, n, r, hl, e⟩ := I.lstM hH
  refine call_meets F.slot_list_reverse ⟨_, e, rfl⟩ F.entry_list_reverse (F.args_list_reverse_1 _) (AutoSeq1.list_reverse_list_0 l its.toArray n (by rw [List.size_toArray]; omega)) ⟨e, ?_⟩
  exact ⟨.non, _, I.lset (its' := its.reverse) (ys := xs.reverse) hH e (by simp) r.reverse (by simpa using z), rfl, q⟩
def mRev (x : MV) (ys : List MV) : M MV := fun h => match lstAt x h, ys with
  | some (n, xs), [] => some (.ok .non (h.set n (.lst xs.reverse)))
  | _, _ => none
theorem o_rev : OpM K mRev rRev := fun {W σ φ h H v x vs xs R Q} s r1 r2 e p => by
  unfold mRev at e
  split at e
  · rename_i n zs q
    cases e
    rw [rvs_nilr r2]
    obtain ⟨a, us, rfl, e2, e3, r3⟩ := lstAt_ok s r1 q
    exact ⟨a, us, rfl, rfl, e3, end_set s e2 r3.rev rv_n p⟩
  · cases e
/-! bool(own) -/
theorem bool_own {prog : Program} {w : World} {A : Around} {E : Value → Shared → Prop} {s : Shared} {x C : Addr} {ox : Obj} {odd : Option Obj} {L : Addr} {h₀ : Heap} {m : Str → Option Value} {Q : Value → Shared → Prop} (hF : PyProof.Rows.Fr h₀ L s.heap m) (X₀ : K.In h₀) (I : InstAt s.heap x ox C odd) (hs : findIn K (.ref C) "__bool__" = some (some (.ref f))) (hf : isFn K (.ref f) = true)
    (h : wpAny (model prog w) A.in1.in1 (call (.ref f) [.ref x]) (fun r s₁ => ∃ b, r = Value.bool b ∧ Q r s₁) E s) : wpAny (model prog w) A (call (.type "bool") [.ref x]) Q E s := by
  refine callType_codes (T := "bool") (Bi := Builtin.«object.__init__») (Q₁ := fun r s₁ => ∃ b, r = Value.bool b ∧ Q r s₁) PySem.F.called_bool (PySem.F.typeCall_bool_1 _) PySem.F.entry_object_init ?_ ?_
  · refine codeAny_of_tree ?_
    show wpAny _ A.in1.in1 (do checkBuiltinCall "bool.__new__" ⟨[.type "bool", .ref x], []⟩; again (.builtin "bool.__new__" ⟨[.type "bool", .ref x], []⟩)) _ _ s
    refine wpAny_bind (wpAny_of_eq (PySem.F.newCall_bool_1 _) (wpAny_pure ⟨plainId_quiet (by decide +kernel) _, codeAny_builtin PySem.F.entry_bool_new ?_⟩))
    rw [Around.under_plainId (by decide +kernel) _]
    have tr : ∀ {P : Bool → Shared → Prop}, (∀ b s₁, Q (.bool b) s₁ → P b s₁) → wpAny (model prog w) A.in1.in1 (truthy (.ref x)) P E s := fun hP => truthy_K hF X₀ I hs hf (wpAny_mono h (fun r s₁ hr => by
      obtain ⟨b, rfl, hq⟩ := hr
      exact hP b s₁ hq) fun _ _ y => y)
    unfold Builtin.«bool.__new__»
    have ty : isType (.type "bool") = pure true := by first | rfl | kernel_rfl
    refine wpAny_bind (wpAny_of_eq (a := true) ty ?_)
    refine PySem.W.KFB.if_not rfl ?_
    refine wpAny_bind (wpAny_of_eq (a := true) PySem.F.conv_sub_bool ?_)
    refine PySem.W.KFB.if_not rfl ?_
    refine wpAny_bind (wpAny_of_eq (a := [.ref x]) (by first | rfl | kernel_rfl) ?_)
    dsimp only
    refine wpAny_bind (tr fun b s₁ hq => ?_)
    exact wpAny_pure ⟨b, rfl, hq⟩
  · rintro obj s₁ ⟨b, rfl, hq⟩
    exact ⟨PySem.typeIs_bool _ _, PySem.F.args_object_init_2 _ _, object_init_meets PySem.F.called_bool.init.lookup PySem.F.called_bool.made (by decide) prog w A.in1 _ s₁ ⟨PySem.typeIs_bool _ _, rfl, hq⟩⟩
theorem call_boolO (ek : X.K = K) (hm : Meth K (He.ga K c) "__bool__" f) (Fn : FnM X.prog X.w K X.mg X.base k f F) (hr : Room (k + 2) X.A) : CallR X (.type "bool") (rOwn1 K c F PBl) := by
  subst ek
  intro pins s σ H xs us Q I r h
  obtain ⟨a, dx, fs, rfl, ha, hq⟩ := h
  obtain ⟨mA, J, _⟩ := ins_get I.hok ha
  obtain ⟨od, J, _⟩ := J.look
  obtain ⟨m, hF⟩ := I.fr
  obtain rfl := Vals.ref1 r
  have hr2 : Room k X.A.in1.in1 := (show Room (k + 1) X.A.in1 from Room.in1 hr).in1
  refine bool_own hF I.ok.mod.kin J hm.at_ hm.fn ?_
  refine wpAny_mono (own_run (us := [.ref a]) (vs := [.ref a]) Fn hr2 I.env0.in1.in1 I (.cons rfl .nil) hq) (fun w s' z => ?_) fun _ _ x => x
  obtain ⟨z', H', I', rz, ⟨b, rfl⟩, qz⟩ := z
  obtain rfl : w = Value.bool b := rz
  exact ⟨b, rfl, .bl b, H', I', rfl, qz⟩
/-! + and * -/
def rOwn2 (K : Frag) (c : Str) (F : List MV → M MV) (P : V → Hp → Prop) : R2 := fun x y H Q => ∃ a dx fs, x = .ref a ∧ H a = some (.ins (He.ga K c) dx fs) ∧ P y H ∧ spM K F [x, y] H Q (fun _ _ _ => False)
def mOwn2 (c : Str) (B : MV → Mh → Bool) (F : List MV → M MV) (x y : MV) : M MV := fun h => match insAt x h with
  | some (c1, _) => if c1 = c ∧ B y h = true then (match F [x, y] h with
    | some (.ok m h') => some (.ok m h')
    | _ => none) else none
  | none => none
theorem o_own2 {P : V → Hp → Prop} {B : MV → Mh → Bool} (hP : ∀ φ h H v x, Sim K φ h H → Rv K φ H v x → B x h = true → P v H) : Op2 K (mOwn2 c B F) (rOwn2 K c F P) := fun {W σ φ h H v w x y R Q} s r1 r2 e p => by
  unfold mOwn2 at e
  split at e
  · rename_i c1 fs1 q1
    split at e
    · rename_i hc
      obtain ⟨rfl, hc⟩ := hc
      obtain ⟨a, dx, fs, rfl, e2, e3, e4⟩ := insAt_ok s r1 q1
      refine ⟨a, dx, fs, rfl, e2, hP _ _ _ _ _ s r2 hc, ?_⟩
      cases z : F [x, y] h with
      | none => rw [z] at e; cases e
      | some R0 =>
        refine ⟨φ, h, [x, y], R0, s, rvs_cons r1 (rvs_cons r2 rvs_nil), z, ?_⟩
        rw [z] at e
        cases R0 with
        | ex ee h' => cases e
        | ok m h' => cases e; exact fun v φ' H' f' s' rv => p v φ' H' f' s' rv
    · cases e
  · cases e
def PIns (K : Frag) (c : Str) (v : V) (H : Hp) : Prop := ∃ b dy gs, v = .ref b ∧ H b = some (.ins (He.ga K c) dy gs)
def PInt (v : V) (_ : Hp) : Prop := ∃ i, v = .int i
def bIns (c : Str) (x : MV) (h : Mh) : Bool := match insAt x h with
  | some (d, _) => decide (d = c)
  | none => false
def bInt (x : MV) (_ : Mh) : Bool := match x with
  | .int _ => true
  | _ => false
theorem pIns_ok : ∀ (φ : Ph) (h : Mh) (H : Hp) (v : V) (x : MV), Sim K φ h H → Rv K φ H v x → bIns c x h = true → PIns K c v H := fun φ h H v x s r e => by
  unfold bIns at e
  split at e
  · rename_i d fs q
    obtain ⟨b, dy, gs, rfl, e2, _, _⟩ := insAt_ok s r q
    rw [of_decide_eq_true e] at e2
    exact ⟨b, dy, gs, rfl, e2⟩
  · cases e
theorem pInt_ok : ∀ (φ : Ph) (h : Mh) (H : Hp) (v : V) (x : MV), Sim K φ h H → Rv K φ H v x → bInt x h = true → PInt v H := fun φ h H v x s r e => by
  cases x <;> first | cases e | skip
  unfold Rv at r; exact ⟨_, r⟩
theorem op_ownAdd (ek : X.K = K) (sf : selfFirst K (He.ga K c) = true) (hm : Meth K (He.ga K c) "__add__" f) (Fn : FnM X.prog X.w K X.mg X.base k f F) (hr : Room k X.A) : OpR X (binaryOp .Add) (rOwn2 K c F (PIns K c)) := by
  subst ek
  intro pins s σ H x y v u Q I rx ry h
  obtain ⟨a, dx, fs, rfl, ha, ⟨b, dy, gs, rfl, hb⟩, hq⟩ := h
  obtain rfl : v = Value.ref a := rx
  obtain rfl : u = Value.ref b := ry
  obtain ⟨mA, J, _⟩ := ins_get I.hok ha
  obtain ⟨mB, J', _⟩ := ins_get I.hok hb
  obtain ⟨od, J, _⟩ := J.look
  obtain ⟨od', J', _⟩ := J'.look
  obtain ⟨m, hF⟩ := I.fr
  refine binop_K (op := .Add) hF I.ok.mod.kin J J'.type sf hm.at_ hm.fn ?_
  refine wpAny_mono (own_run (us := [.ref a, .ref b]) (vs := [.ref a, .ref b]) Fn hr I.env0 I (.cons rfl (.cons rfl .nil)) hq) (fun w s' z => ?_) fun _ _ x => x
  obtain ⟨z', H', I', rz, qz⟩ := z
  exact SlX.cmpback rz ⟨z', H', I', rz, qz⟩
def mulB (K : Frag) (c : Str) : Bool := selfFirst K (He.ga K c) && (He.eqO (findIn K (.ref (He.ga K c)) "__rmul__") (some none) && (He.eqO (findIn K (.type "int") "__mul__") (some (some (.builtin "int.__mul__"))) && (He.eqO (findIn K (.type "int") "__rmul__") (some (some (.builtin "int.__rmul__"))) && decide (subIn K (.type "int") (.ref (He.ga K c)) = some false))))
theorem op_ownMul (ek : X.K = K) (mb : mulB K c = true) (hm : Meth K (He.ga K c) "__mul__" f) (Fn : FnM X.prog X.w K X.mg X.base k f F) (hr : Room k X.A) : OpR X (binaryOp .Mult) (rOwn2 K c F PInt) := by
  subst ek
  obtain ⟨sf, mb⟩ := He.ba mb
  obtain ⟨b1, mb⟩ := He.ba mb
  obtain ⟨b2, mb⟩ := He.ba mb
  obtain ⟨b3, b4⟩ := He.ba mb
  intro pins s σ H x y v u Q I rx ry h
  obtain ⟨a, dx, fs, rfl, ha, ⟨i, rfl⟩, hq⟩ := h
  obtain rfl : v = Value.ref a := rx
  obtain ⟨t, rfl⟩ := (show ∃ t, u = Value.int i t from ry)
  obtain ⟨mA, J, _⟩ := ins_get I.hok ha
  obtain ⟨od, J, _⟩ := J.look
  obtain ⟨m, hF⟩ := I.fr
  refine ksp_binT (op := .Mult) (T := "int") hF I.ok.mod.kin J rfl sf hm.at_ hm.fn (rc := none) (He.eqO_ok b1) (.inl rfl) (He.eqO_ok b2) (He.eqO_ok b3) (of_decide_eq_true b4) ?_
  refine wpAny_mono (own_run (us := [.ref a, .int i t]) (vs := [.ref a, .int i]) Fn hr I.env0 I (.cons rfl (.cons ⟨t, rfl⟩ .nil)) hq) (fun w s' z => ?_) fun _ _ x => x
  obtain ⟨z', H', I', rz, qz⟩ := z
  exact SlX.cmpback rz ⟨z', H', I', rz, qz⟩
/-! x in own -/
def rInO (K : Frag) (c : Str) (n : Bool) (F : List MV → M MV) : R2 := fun x y H Q => ∃ a dx fs, y = .ref a ∧ H a = some (.ins (He.ga K c) dx fs) ∧ spM K F [y, x] H (fun v H' => ∃ k, v = .bl k ∧ Q (.bl (n ^^ k)) H') (fun _ _ _ => False)
def mInO (c : Str) (n : Bool) (F : List MV → M MV) (x y : MV) : M MV := fun h => match insAt y h with
  | some (c1, _) => if c1 = c then (match F [y, x] h with
    | some (.ok (.bl b) h') => some (.ok (.bl (n ^^ b)) h')
    | _ => none) else none
  | none => none
theorem o_inO {n : Bool} : Op2 K (mInO c n F) (rInO K c n F) := fun {W σ φ h H v w x y R Q} s r1 r2 e p => by
  unfold mInO at e
  split at e
  · rename_i c1 fs1 q1
    split at e
    · rename_i hc
      subst hc
      obtain ⟨a, dx, fs, rfl, e2, e3, e4⟩ := insAt_ok s r2 q1
      refine ⟨a, dx, fs, rfl, e2, ?_⟩
      cases z : F [y, x] h with
      | none => rw [z] at e; cases e
      | some R0 =>
        refine ⟨φ, h, [y, x], R0, s, rvs_cons r2 (rvs_cons r1 rvs_nil), z, ?_⟩
        rw [z] at e
        cases R0 with
        | ex ee h' => cases e
        | ok m h' =>
          cases m with
          | bl b => cases e; exact fun v φ' H' f' s' rv => ⟨b, by unfold Rv at rv; exact rv, p _ φ' H' f' s' (by unfold Rv; rfl)⟩
          | _ => cases e
    · cases e
  · cases e
theorem op_inO (ek : X.K = K) (hm : Meth K (He.ga K c) "__contains__" f) (Fn : FnM X.prog X.w K X.mg X.base k f F) (hr : Room k X.A) : OpR X (compareOp .In) (rInO K c false F) := by
  subst ek
  intro pins s σ H x y v u Q I rx ry h
  obtain ⟨a, dx, fs, rfl, ha, hq⟩ := h
  obtain rfl : u = Value.ref a := ry
  obtain ⟨mA, J, _⟩ := ins_get I.hok ha
  obtain ⟨od, J, _⟩ := J.look
  obtain ⟨m, hF⟩ := I.fr
  refine in_K hF I.ok.mod.kin J hm.at_ hm.fn ?_
  refine wpAny_mono (own_run (us := [.ref a, v]) (vs := [.ref a, x]) Fn hr I.env0 I (.cons rfl (.cons rx .nil)) hq) (fun w s' z => ?_) fun _ _ x => x
  obtain ⟨z', H', I', rz, b, rfl, qz⟩ := z
  obtain rfl : w = Value.bool b := rz
  exact wpAny_truthy_bool ⟨.bl b, H', I', rfl, by simpa using qz⟩
/-! own[i] -/
theorem m_subO {a b : Expr} {A B : Sg → M MV} {pos : Pos} {P : V → Hp → Prop} {bb : MV → Mh → Bool} (ek : X.K = K) (fi : fnIn K f = true) (hm : Meth K (He.ga K c) "__getitem__" f) (Fn : FnM X.prog X.w K X.mg X.base k f F) (hr : Room (k + 1) X.A) (hP : ∀ φ h H v x, Sim K φ h H → Rv K φ H v x → bb x h = true → P v H) (ha : PE X a (tM K W A)) (hb : PE X b (tM K W B))
    (hsl : ∀ (x : Addr) (i : Value), subscripted b true (.ref x) i = runValue (.builtin "lifetime.subscript" ⟨[.ref x, i], []⟩) := by intro _ _; rfl) : PE X (.Subscript a b pos) (tM K W (x2 (mOwn2 c bb F) A B)) := by
  subst ek
  refine pew (t := tOp (rOwn2 X.K c F P) (tM X.K W A) (tM X.K W B)) ⟨fun pins s σ H Q I h => ?_⟩ (two (o_own2 hP))
  refine Subscript_ (binT ha hb I h fun v u s2 x y H2 I2 rx ry q => ?_)
  obtain ⟨a', dx, fs, rfl, ha', _, hq⟩ := q
  obtain rfl : v = Value.ref a' := rx
  obtain ⟨mA, J, _⟩ := ins_get I2.hok ha'
  obtain ⟨od, J, _⟩ := J.look
  obtain ⟨m, hF⟩ := I2.fr
  refine sub_K hF I2.ok.mod.kin J hm.at_ fi hm.fn ?_ (hsl _ _)
  exact own_run (us := [.ref a', u]) (vs := [.ref a', y]) Fn hr.in1 I2.env0.in1 I2 (.cons rfl (.cons ry .nil)) hq
end
end Mi
/-! Mi: t1 = t2 = t3 = t4 = e; own and own by their != -/
namespace Mi
open PySem PySem.Spec PyProof.Rows L2 Ob StX PySem.W
theorem wpAny_Assign_four {M : Model} {A : Around} {E : Value → Shared → Prop} {s : Shared} {env : Env} {t₁ t₂ t₃ t₄ value : Expr} {pos : Pos} {Q : Flow → Shared → Prop}
    (h : wpAny M A (eval value env) (fun v s₁ => wpAny M A (assign t₁ env v) (fun _ s₂ => wpAny M A (assign t₂ env v) (fun _ s₃ => wpAny M A (assign t₃ env v) (fun _ s₄ => wpAny M A (assign t₄ env v) (fun _ => Q .next) E s₄) E s₃) E s₂) E s₁) E s)
    (he : (assignEach [t₁, t₂, t₃, t₄] env).map (·.2) = [assign t₁ env, assign t₂ env, assign t₃ env, assign t₄ env] := by rfl)
    (hw : swappedStores [t₁, t₂, t₃, t₄] value env = pure none := by rfl) :
    wpAny M A (exec (.Assign [t₁, t₂, t₃, t₄] value pos) env) Q E s := by
  refine wpAny_Assign_stores (wpAny_mono h (fun v s₁ h₁ => ?_) fun _ _ x => x) rfl hw
  rw [he]
  exact wpAny_bind (wpAny_holding (wpAny_mono h₁ (fun _ s₂ h₂ => wpAny_bind (wpAny_holding (wpAny_mono h₂ (fun _ s₃ h₃ => wpAny_bind (wpAny_holding h₃)) fun _ _ x => x))) fun _ _ x => x))
section
variable {X : Cx} {K : Frag} {W : WX} {a : Expr} {A : Sg → M MV} {pos : Pos}
def tAsg4 (te : TE) (g1 g2 g3 g4 : TG) : TS := fun D σ H => te σ H fun x H1 => g1 x σ H1 fun σ1 H2 => g2 x σ1 H2 fun σ2 H3 => g3 x σ2 H3 fun σ3 H4 => g4 x σ3 H4 D.nx
theorem ps_asg4 {e : Expr} {te : TE} {t1 t2 t3 t4 : Expr} {g1 g2 g3 g4 : TG} (he : PE X e te) (h1 : PG X t1 g1) (h2 : PG X t2 g2) (h3 : PG X t3 g3) (h4 : PG X t4 g4)
    (ha : (assignEach [t1, t2, t3, t4] X.env).map (·.2) = [assign t1 X.env, assign t2 X.env, assign t3 X.env, assign t4 X.env] := by rfl) (hw : swappedStores [t1, t2, t3, t4] e X.env = pure none := by rfl) :
    PS X (.Assign [t1, t2, t3, t4] e pos) (tAsg4 te g1 g2 g3 g4) := by
  refine ⟨fun pins s σ H D I h => ?_⟩
  refine wpAny_Assign_four (thn (he.run pins s σ H _ I h) fun v s1 ⟨x, H1, I1, r1, q1⟩ => ?_) ha hw
  refine thn (h1.run pins s1 σ H1 x v _ I1 r1 q1) fun _ s2 ⟨σ2, H2, I2, q2⟩ => ?_
  refine thn (h2.run pins s2 σ2 H2 x v _ I2 r1 q2) fun _ s3 ⟨σ3, H3, I3, q3⟩ => ?_
  refine thn (h3.run pins s3 σ3 H3 x v _ I3 r1 q3) fun _ s4 ⟨σ4, H4, I4, q4⟩ => ?_
  exact thn (h4.run pins s4 σ4 H4 x v _ I4 r1 q4) fun _ s5 q => q
def sAsg4 (A : Sg → M MV) (T U Z Y : MT) : MS := bs A fun x g h => match T x g h with
  | some (.ok g1 h1) => match U x g1 h1 with
    | some (.ok g2 h2) => match Z x g2 h2 with
      | some (.ok g3 h3) => match Y x g3 h3 with
        | some (.ok g4 h4) => some (.nx g4 h4)
        | _ => none
      | _ => none
    | _ => none
  | _ => none
theorem s_asg4 {t1 t2 t3 t4 : Expr} {T U Z Y : MT} (ha : PE X a (tM K W A)) (h1 : PG X t1 (tgM K W T)) (h2 : PG X t2 (tgM K W U)) (h3 : PG X t3 (tgM K W Z)) (h4 : PG X t4 (tgM K W Y))
    (hn : (assignEach [t1, t2, t3, t4] X.env).map (·.2) = [assign t1 X.env, assign t2 X.env, assign t3 X.env, assign t4 X.env] := by rfl) (hw : swappedStores [t1, t2, t3, t4] a X.env = pure none := by rfl) :
    PS X (.Assign [t1, t2, t3, t4] a pos) (tS K W (sAsg4 A T U Z Y)) := psw (ps_asg4 ha h1 h2 h3 h4 hn hw) fun D σ H ⟨φ, g, h, r, hs, hg, e, p⟩ => bindS hs hg e p fun x h1 v φ1 H1 f1 s1 g1 r1 e1 p1 => by
  split at e1
  · rename_i g2 h2' q
    split at e1
    · rename_i g3 h3' q2
      split at e1
      · rename_i g4 h4' q3
        split at e1
        · rename_i g5 h5' q4
          cases e1
          exact ⟨φ1, g, h1, x, _, s1, g1, r1, q, fun σ2 φ2 H2 f2 s2 gg2 => ⟨φ2, g2, h2', x, _, s2, gg2, s1.rv f2 r1, q2, fun σ3 φ3 H3 f3 s3 gg3 => ⟨φ3, g3, h3', x, _, s3, gg3, s1.rv (f2.trans f3) r1, q3, fun σ4 φ4 H4 f4 s4 gg4 => ⟨φ4, g4, h4', x, _, s4, gg4, s1.rv (f2.trans (f3.trans f4)) r1, q4, fun σ5 φ5 H5 f5 s5 gg5 => p1 σ5 φ5 H5 (f2.trans (f3.trans (f4.trans f5))) s5 gg5⟩⟩⟩⟩
        · cases e1
      · cases e1
    · cases e1
  · cases e1
end
end Mi
/-! Mi: sorted(a list of whole numbers) -/
namespace Mi
open PySem PySem.Spec PyProof.Rows L2 Ob StX PySem.W
variable {K : PySem.W.Frag}
def sortZ (ns : List Int) : List Int := ns.mergeSort fun x y => decide (x ≤ y)
theorem sort_one : ∀ {a b : List Int}, a.Perm b → a.Pairwise (· ≤ ·) → b.Pairwise (· ≤ ·) → a = b
  | [], b, h, _, _ => by rw [List.nil_perm.mp h]
  | x :: a, b, h, ha, hb => by
    cases b with
    | nil => exact absurd h.length_eq (by simp)
    | cons y b =>
      have e : x = y := by
        have h1 : x ≤ y := by
          rcases List.mem_cons.mp (h.mem_iff.mpr (List.mem_cons_self ..)) with q | q
          · rw [q]
            exact Int.le_refl _
          · exact (List.pairwise_cons.mp ha).1 y q
        have h2 : y ≤ x := by
          rcases List.mem_cons.mp (h.mem_iff.mp (List.mem_cons_self ..)) with q | q
          · rw [q]
            exact Int.le_refl _
          · exact (List.pairwise_cons.mp hb).1 x q
        omega
      subst e
      rw [sort_one h.cons_inv (List.pairwise_cons.mp ha).2 (List.pairwise_cons.mp hb).2]
theorem sortZ_is {a b : List Int} (h : a.Perm b) (ha : a.Pairwise (· ≤ ·)) : a = sortZ b := by
  refine sort_one (h.trans (List.mergeSort_perm b _).symm) ha ?_
  have hs := List.pairwise_mergeSort (le := fun x y : Int => decide (x ≤ y)) (by intro x y z hxy hyz; simp only [decide_eq_true_eq] at *; omega) (by intro x y; simp only [Bool.or_eq_true, decide_eq_true_eq]; omega) b
  unfold sortZ
  simpa using hs
theorem sortZ_perm (b : List Int) : (sortZ b).Perm b := List.mergeSort_perm b _
theorem sortZ_pair (b : List Int) : (sortZ b).Pairwise (· ≤ ·) := by
  have hs := List.pairwise_mergeSort (le := fun x y : Int => decide (x ≤ y)) (by intro x y z hxy hyz; simp only [decide_eq_true_eq] at *; omega) (by intro x y; simp only [Bool.or_eq_true, decide_eq_true_eq]; omega) b
  unfold sortZ
  simpa using hs
def mSorted (b : Bool) (xs : List MV) : M MV := fun h => match xs with
  | [x] => match lsv x h with
    | some ys => match intsOf ys with
      | some ns => if ns.length < 64 then mkl b ((sortZ ns).map .int) h else none
      | none => none
    | none => none
  | _ => none
theorem rvs_ints {φ : Ph} {H : Hp} : ∀ ns : List Int, Rvs K φ H (ns.map V.int) (ns.map MV.int)
  | ns => Rvs.map (fun z => by unfold Rv; rfl) ns
theorem o_sorted (b : Bool) : OpN K (mSorted b) (rSorted K) := fun {W σ φ h H vs xs R Q} s r e p => by
  unfold mSorted at e
  split at e
  · obtain ⟨v, rfl, r1⟩ := one_inv r
    split at e
    · rename_i ys q
      obtain ⟨a, ws, rfl, qa, ra⟩ := lsv_ok s q r1
      split at e
      · rename_i ns q2
        have ew := ints_ok q2 ra
        subst ew
        split at e
        · rename_i l64
          refine ⟨a, ns, rfl, qa, l64, fun ns' p' h1 h2 h3 => ?_⟩
          rw [sortZ_is h1 h2]
          exact end_mkl s (rvs_ints _) e p p' h3
        · cases e
      · cases e
    · cases e
  · cases e
theorem kcr_sorted {X : Cx} (e : X.K = K) : CallR X (.builtin "sorted") (rSorted K) := by subst e; exact cr_sorted
end Mi
namespace Lw
open PySem PySem.Spec PyProof.Rows L2 Ob Mi StX
def top (i : Nat) : Stmt := PySem.Challenge.pw_ownbranch_k58_whole_parts_hold_together.main.body.getD i (.Pass ⟨0, 0, 0, 0⟩)
abbrev N__wall : List Str := ["k"]
def d__wall : He.DefD := ⟨("_wall", none), "_wall", "_wall", defArgs (top 0), defBody (top 0), defScope (top 0), [], []⟩
abbrev N_is_integer : List Str := ["thing", "least", "most"]
theorem sc_is_integer : FnScope N_is_integer ["thing", "least", "most"] (defScope (top 8)) := ⟨rfl, rfl, rfl, by decide +kernel, rfl, by decide +kernel, by decide +kernel⟩
def d_is_integer : He.DefD := ⟨("is_integer", none), "is_integer", "is_integer", defArgs (top 8), defBody (top 8), defScope (top 8), [], []⟩
abbrev N_is_text : List Str := ["thing", "letter"]
theorem sc_is_text : FnScope N_is_text ["thing"] (defScope (top 9)) := ⟨rfl, rfl, rfl, by decide +kernel, rfl, by decide +kernel, by decide +kernel⟩
def d_is_text : He.DefD := ⟨("is_text", none), "is_text", "is_text", defArgs (top 9), defBody (top 9), defScope (top 9), [], []⟩
abbrev N_is_pair : List Str := ["thing", "part", "times"]
theorem sc_is_pair : FnScope N_is_pair ["thing"] (defScope (top 15)) := ⟨rfl, rfl, rfl, by decide +kernel, rfl, by decide +kernel, by decide +kernel⟩
def d_is_pair : He.DefD := ⟨("is_pair", none), "is_pair", "is_pair", defArgs (top 15), defBody (top 15), defScope (top 15), [], []⟩
abbrev N_root : List Str := ["part"]
theorem sc_root : FnScope N_root ["part"] (defScope (top 16)) := ⟨rfl, rfl, rfl, by decide +kernel, rfl, by decide +kernel, by decide +kernel⟩
def d_root : He.DefD := ⟨("root", none), "root", "root", defArgs (top 16), defBody (top 16), defScope (top 16), [], []⟩
abbrev N_tidy : List Str := ["pairs", "found", "part", "times", "short", "many"]
theorem sc_tidy : FnScope N_tidy ["pairs"] (defScope (top 17)) := ⟨rfl, rfl, rfl, by decide +kernel, rfl, by decide +kernel, by decide +kernel⟩
def d_tidy : He.DefD := ⟨("tidy", none), "tidy", "tidy", defArgs (top 17), defBody (top 17), defScope (top 17), [], []⟩
abbrev N_stretch : List Str := ["part", "first", "many", "offset", "copies"]
theorem sc_stretch : FnScope N_stretch ["part", "first", "many"] (defScope (top 18)) := ⟨rfl, rfl, rfl, by decide +kernel, rfl, by decide +kernel, by decide +kernel⟩
def d_stretch : He.DefD := ⟨("stretch", none), "stretch", "stretch", defArgs (top 18), defBody (top 18), defScope (top 18), [], []⟩
abbrev N_cut : List Str := ["part", "begin", "end", "first", "offset", "last", "rest"]
theorem sc_cut : FnScope N_cut ["part", "begin", "end"] (defScope (top 19)) := ⟨rfl, rfl, rfl, by decide +kernel, rfl, by decide +kernel, by decide +kernel⟩
def d_cut : He.DefD := ⟨("cut", none), "cut", "cut", defArgs (top 19), defBody (top 19), defScope (top 19), [], []⟩
abbrev N_same_items : List Str := ["one", "other", "place", "other_place", "used", "other_used", "part", "times", "other_part", "other_times", "many", "looked_at"]
theorem sc_same_items : FnScope N_same_items ["one", "other"] (defScope (top 20)) := ⟨rfl, rfl, rfl, by decide +kernel, rfl, by decide +kernel, by decide +kernel⟩
def d_same_items : He.DefD := ⟨("same_items", none), "same_items", "same_items", defArgs (top 20), defBody (top 20), defScope (top 20), [], []⟩
abbrev N_Runs___init__ : List Str := ["self", "pairs"]
theorem sc_Runs___init__ : FnScope N_Runs___init__ ["self", "pairs"] (defScope (inClass (top 21) 0)) := ⟨rfl, rfl, rfl, by decide +kernel, rfl, by decide +kernel, by decide +kernel⟩
def d_Runs___init__ : He.DefD := ⟨("Runs", some "__init__"), "__init__", "Runs.__init__", defArgs (inClass (top 21) 0), defBody (inClass (top 21) 0), defScope (inClass (top 21) 0), [], []⟩
abbrev N_Repeats___init__ : List Str := ["self", "pairs", "pair"]
theorem sc_Repeats___init__ : FnScope N_Repeats___init__ ["self", "pairs"] (defScope (inClass (top 22) 0)) := ⟨rfl, rfl, rfl, by decide +kernel, rfl, by decide +kernel, by decide +kernel⟩
def d_Repeats___init__ : He.DefD := ⟨("Repeats", some "__init__"), "__init__", "Repeats.__init__", defArgs (inClass (top 22) 0), defBody (inClass (top 22) 0), defScope (inClass (top 22) 0), [], []⟩
abbrev N_Repeats___iter__ : List Str := ["self"]
def d_Repeats___iter__ : He.DefD := ⟨("Repeats", some "__iter__"), "__iter__", "Repeats.__iter__", defArgs (inClass (top 22) 3), defBody (inClass (top 22) 3), defScope (inClass (top 22) 3), [], []⟩
abbrev N_Repeats___getitem__ : List Str := ["self", "index", "begin", "part", "times"]
theorem sc_Repeats___getitem__ : FnScope N_Repeats___getitem__ ["self", "index"] (defScope (inClass (top 22) 4)) := ⟨rfl, rfl, rfl, by decide +kernel, rfl, by decide +kernel, by decide +kernel⟩
def d_Repeats___getitem__ : He.DefD := ⟨("Repeats", some "__getitem__"), "__getitem__", "Repeats.__getitem__", defArgs (inClass (top 22) 4), defBody (inClass (top 22) 4), defScope (inClass (top 22) 4), [], []⟩
abbrev N_Repeats_part : List Str := ["self", "begin", "end", "found", "before", "part", "times", "size"]
theorem sc_Repeats_part : FnScope N_Repeats_part ["self", "begin", "end"] (defScope (inClass (top 22) 5)) := ⟨rfl, rfl, rfl, by decide +kernel, rfl, by decide +kernel, by decide +kernel⟩
def d_Repeats_part : He.DefD := ⟨("Repeats", some "part"), "part", "Repeats.part", defArgs (inClass (top 22) 5), defBody (inClass (top 22) 5), defScope (inClass (top 22) 5), [], []⟩
abbrev N_Repeats_to_text : List Str := ["self", "part", "times"]
def d_Repeats_to_text : He.DefD := ⟨("Repeats", some "to_text"), "to_text", "Repeats.to_text", defArgs (inClass (top 22) 6), defBody (inClass (top 22) 6), defScope (inClass (top 22) 6), [], []⟩
abbrev N_Repeats_count : List Str := ["self", "item", "part", "times"]
theorem sc_Repeats_count : FnScope N_Repeats_count ["self", "item"] (defScope (inClass (top 22) 7)) := ⟨rfl, rfl, rfl, by decide +kernel, rfl, by decide +kernel, by decide +kernel⟩
def d_Repeats_count : He.DefD := ⟨("Repeats", some "count"), "count", "Repeats.count", defArgs (inClass (top 22) 7), defBody (inClass (top 22) 7), defScope (inClass (top 22) 7), [], []⟩
abbrev N_Repeats___contains__ : List Str := ["self", "item", "part", "times"]
def d_Repeats___contains__ : He.DefD := ⟨("Repeats", some "__contains__"), "__contains__", "Repeats.__contains__", defArgs (inClass (top 22) 8), defBody (inClass (top 22) 8), defScope (inClass (top 22) 8), [], []⟩
abbrev N_Repeats___add__ : List Str := ["self", "other"]
theorem sc_Repeats___add__ : FnScope N_Repeats___add__ ["self", "other"] (defScope (inClass (top 22) 9)) := ⟨rfl, rfl, rfl, by decide +kernel, rfl, by decide +kernel, by decide +kernel⟩
def d_Repeats___add__ : He.DefD := ⟨("Repeats", some "__add__"), "__add__", "Repeats.__add__", defArgs (inClass (top 22) 9), defBody (inClass (top 22) 9), defScope (inClass (top 22) 9), [], []⟩
abbrev N_Repeats___mul__ : List Str := ["self", "times"]
def d_Repeats___mul__ : He.DefD := ⟨("Repeats", some "__mul__"), "__mul__", "Repeats.__mul__", defArgs (inClass (top 22) 10), defBody (inClass (top 22) 10), defScope (inClass (top 22) 10), [], []⟩
abbrev N_Repeats___eq__ : List Str := ["self", "other"]
theorem sc_Repeats___eq__ : FnScope N_Repeats___eq__ ["self", "other"] (defScope (inClass (top 22) 11)) := ⟨rfl, rfl, rfl, by decide +kernel, rfl, by decide +kernel, by decide +kernel⟩
def d_Repeats___eq__ : He.DefD := ⟨("Repeats", some "__eq__"), "__eq__", "Repeats.__eq__", defArgs (inClass (top 22) 11), defBody (inClass (top 22) 11), defScope (inClass (top 22) 11), [], []⟩
abbrev N_Repeats___bool__ : List Str := ["self"]
theorem sc_Repeats___bool__ : FnScope N_Repeats___bool__ ["self"] (defScope (inClass (top 22) 12)) := ⟨rfl, rfl, rfl, by decide +kernel, rfl, by decide +kernel, by decide +kernel⟩
def d_Repeats___bool__ : He.DefD := ⟨("Repeats", some "__bool__"), "__bool__", "Repeats.__bool__", defArgs (inClass (top 22) 12), defBody (inClass (top 22) 12), defScope (inClass (top 22) 12), [], []⟩
abbrev N_Repeats___repr__ : List Str := ["self"]
def d_Repeats___repr__ : He.DefD := ⟨("Repeats", some "__repr__"), "__repr__", "Repeats.__repr__", defArgs (inClass (top 22) 13), defBody (inClass (top 22) 13), defScope (inClass (top 22) 13), [], []⟩
abbrev N__law_bag : List Str := ["_law_script", "_law_at", "_law_cell", "_law_great"]
theorem sc__law_bag : FnScope N__law_bag ["_law_script", "_law_at"] (defScope (top 24)) := ⟨rfl, rfl, rfl, by decide +kernel, rfl, by decide +kernel, by decide +kernel⟩
def d__law_bag : He.DefD := ⟨("_law_bag", none), "_law_bag", "_law_bag", defArgs (top 24), defBody (top 24), defScope (top 24), [], []⟩
abbrev N__law_take : List Str := ["_law_bag_here", "_law_many", "_law_digit"]
theorem sc__law_take : FnScope N__law_take ["_law_bag_here", "_law_many"] (defScope (top 25)) := ⟨rfl, rfl, rfl, by decide +kernel, rfl, by decide +kernel, by decide +kernel⟩
def d__law_take : He.DefD := ⟨("_law_take", none), "_law_take", "_law_take", defArgs (top 25), defBody (top 25), defScope (top 25), [], []⟩
abbrev N__law_text : List Str := ["_law_bag_here", "_law_most", "_law_turn"]
theorem sc__law_text : FnScope N__law_text ["_law_bag_here", "_law_most"] (defScope (top 26)) := ⟨rfl, rfl, rfl, by decide +kernel, rfl, by decide +kernel, by decide +kernel⟩
def d__law_text : He.DefD := ⟨("_law_text", none), "_law_text", "_law_text", defArgs (top 26), defBody (top 26), defScope (top 26), [], []⟩
abbrev N__law_pairs : List Str := ["_law_bag_here", "_law_most", "_law_times", "_law_turn"]
theorem sc__law_pairs : FnScope N__law_pairs ["_law_bag_here", "_law_most", "_law_times"] (defScope (top 27)) := ⟨rfl, rfl, rfl, by decide +kernel, rfl, by decide +kernel, by decide +kernel⟩
def d__law_pairs : He.DefD := ⟨("_law_pairs", none), "_law_pairs", "_law_pairs", defArgs (top 27), defBody (top 27), defScope (top 27), [], []⟩
abbrev N__law_plain : List Str := ["_law_pairs_here", "_law_some", "_law_times"]
def d__law_plain : He.DefD := ⟨("_law_plain", none), "_law_plain", "_law_plain", defArgs (top 28), defBody (top 28), defScope (top 28), [], []⟩
abbrev N__law_cuts : List Str := ["_law_bag_here", "_law_home", "_law_some", "_law_turn"]
theorem sc__law_cuts : FnScope N__law_cuts ["_law_bag_here", "_law_home"] (defScope (top 29)) := ⟨rfl, rfl, rfl, by decide +kernel, rfl, by decide +kernel, by decide +kernel⟩
def d__law_cuts : He.DefD := ⟨("_law_cuts", none), "_law_cuts", "_law_cuts", defArgs (top 29), defBody (top 29), defScope (top 29), [], []⟩
abbrev N__law_parts_right : List Str := ["_law_home", "_law_places", "_law_parts", "_law_whole", "_law_part", "_law_item", "_law_low", "_law_high"]
theorem sc__law_parts_right : FnScope N__law_parts_right ["_law_home", "_law_places"] (defScope (top 30)) := ⟨rfl, rfl, rfl, by decide +kernel, rfl, by decide +kernel, by decide +kernel⟩
def d__law_parts_right : He.DefD := ⟨("_law_parts_right", none), "_law_parts_right", "_law_parts_right", defArgs (top 30), defBody (top 30), defScope (top 30), [], []⟩
abbrev N_law : List Str := ["_law_script", "_law_k", "_law_bag_here", "_law_home", "_law_places", "_law_low", "_law_high", "_law_part", "_law_at"]
theorem sc_law : FnScope N_law ["_law_script"] (defScope (top 31)) := ⟨rfl, rfl, rfl, by decide +kernel, rfl, by decide +kernel, by decide +kernel⟩
def d_law : He.DefD := ⟨("law", none), "law", "law", defArgs (top 31), defBody (top 31), defScope (top 31), [], []⟩
abbrev N_Repeats_length : List Str := ["self", "part", "times"]
theorem sc_Repeats_length : FnScope N_Repeats_length ["self"] (defScope (inClass (top 22) 2)) := ⟨rfl, rfl, rfl, by decide +kernel, rfl, by decide +kernel, by decide +kernel⟩
def g_Repeats_length : He5.DefA := ⟨fun K => gad K "Repeats" "length", "length", "Repeats.length", defArgs (inClass (top 22) 2), defBody (inClass (top 22) 2), defScope (inClass (top 22) 2), [], []⟩
def gn : List He5.DefA := [g_Repeats_length]
def fn : List He.DefD := [d__wall, d_is_integer, d_is_text, d_is_pair, d_root, d_tidy, d_stretch, d_cut, d_same_items, d_Runs___init__, d_Repeats___init__, d_Repeats___iter__, d_Repeats___getitem__, d_Repeats_part, d_Repeats_to_text, d_Repeats_count, d_Repeats___contains__, d_Repeats___add__, d_Repeats___mul__, d_Repeats___eq__, d_Repeats___bool__, d_Repeats___repr__, d__law_bag, d__law_take, d__law_text, d__law_pairs, d__law_plain, d__law_cuts, d__law_parts_right, d_law]
def fa : List He.Fa := [.glo "_wall", .glo "is_integer", .glo "is_text", .glo "is_pair", .glo "root", .glo "tidy", .glo "stretch", .glo "cut", .glo "same_items", .glo "_law_bag", .glo "_law_take", .glo "_law_text", .glo "_law_pairs", .glo "_law_plain", .glo "_law_cuts", .glo "_law_parts_right", .glo "law", .glo "BranchError", .glo "BadList", .glo "TooLong", .glo "NoIndex", .glo "Runs", .glo "Repeats", .str "ITEMS" "abcd", .int "MOST_PAIRS" 50, .int "LONGEST_PART" 20, .int "LONGEST_TEXT" 2000, .int "MOST_TIMES" 1000000000000000000000000000000000000000000000000000000000000, .free "IndexError", .free "TypeError", .free "ValueError", .free "abs", .free "all", .free "any", .free "bool", .free "classmethod", .free "divmod", .free "int", .free "isinstance", .free "len", .free "list", .free "max", .free "min", .free "property", .free "range", .free "sorted", .free "str", .free "sum", .free "tuple", .free "zip", .cls "Runs", .mkr "Runs", .noat "Runs" "tidied", .cls "Repeats", .mkr "Repeats", .meth "Repeats" "part", .meth "Repeats" "to_text", .meth "Repeats" "count", .noat "Repeats" "runs", .meth "Repeats" "__add__", .meth "Repeats" "__eq__", .meth "Repeats" "__getitem__", .meth "Repeats" "__bool__"]
def ts : List He.Tab := []
def ex (K : PySem.W.Frag) : Bool := isoB K "Runs" ["Runs", "Repeats"] && (excB K "BadList" [.type "ValueError", .type "Exception", .type "BaseException", .type "object"] "ValueError.__new__" && (isoB K "Repeats" ["Runs", "Repeats"] && (prpB K "Repeats" "length" && (excB K "NoIndex" [.type "IndexError", .type "LookupError", .type "Exception", .type "BaseException", .type "object"] "IndexError.__new__" && (PySem.W.selfFirst K (He.ga K "Repeats") && (nfB K "Repeats" ["Repeats"] && (neB K "Repeats" && (PySem.W.fnIn K (He.ma K (He.ga K "Repeats") "__getitem__")))))))))
abbrev TT (w : World) := Ty fa fn ts ex gn w
theorem exq_0 {w : World} {K : PySem.W.Frag} {mg : Str → Option Value} (T : TT w K mg) : isoB K "Runs" ["Runs", "Repeats"] = true := (He.ba T.more).1
theorem exq_1 {w : World} {K : PySem.W.Frag} {mg : Str → Option Value} (T : TT w K mg) : excB K "BadList" [.type "ValueError", .type "Exception", .type "BaseException", .type "object"] "ValueError.__new__" = true := (He.ba (He.ba T.more).2).1
theorem exq_2 {w : World} {K : PySem.W.Frag} {mg : Str → Option Value} (T : TT w K mg) : isoB K "Repeats" ["Runs", "Repeats"] = true := (He.ba (He.ba (He.ba T.more).2).2).1
theorem exq_3 {w : World} {K : PySem.W.Frag} {mg : Str → Option Value} (T : TT w K mg) : prpB K "Repeats" "length" = true := (He.ba (He.ba (He.ba (He.ba T.more).2).2).2).1
theorem exq_4 {w : World} {K : PySem.W.Frag} {mg : Str → Option Value} (T : TT w K mg) : excB K "NoIndex" [.type "IndexError", .type "LookupError", .type "Exception", .type "BaseException", .type "object"] "IndexError.__new__" = true := (He.ba (He.ba (He.ba (He.ba (He.ba T.more).2).2).2).2).1
theorem exq_5 {w : World} {K : PySem.W.Frag} {mg : Str → Option Value} (T : TT w K mg) : PySem.W.selfFirst K (He.ga K "Repeats") = true := (He.ba (He.ba (He.ba (He.ba (He.ba (He.ba T.more).2).2).2).2).2).1
theorem exq_6 {w : World} {K : PySem.W.Frag} {mg : Str → Option Value} (T : TT w K mg) : nfB K "Repeats" ["Repeats"] = true := (He.ba (He.ba (He.ba (He.ba (He.ba (He.ba (He.ba T.more).2).2).2).2).2).2).1
theorem exq_7 {w : World} {K : PySem.W.Frag} {mg : Str → Option Value} (T : TT w K mg) : neB K "Repeats" = true := (He.ba (He.ba (He.ba (He.ba (He.ba (He.ba (He.ba (He.ba T.more).2).2).2).2).2).2).2).1
theorem exq_8 {w : World} {K : PySem.W.Frag} {mg : Str → Option Value} (T : TT w K mg) : PySem.W.fnIn K (He.ma K (He.ga K "Repeats") "__getitem__") = true := (He.ba (He.ba (He.ba (He.ba (He.ba (He.ba (He.ba (He.ba T.more).2).2).2).2).2).2).2).2
section
variable {P : Program} {w : World} {K : PySem.W.Frag} {mg : Str → Option Value} {base : Heap}
def B_is_integer : MS :=
  (sRet (xAnd (x1 mIsi2 (xCons (xVar 0) (xCons (xC (.raw (.ty "int"))) xNil))) (xAnd (x1 mNot (x1 mIsi2 (xCons (xVar 0) (xCons (xC (.raw (.ty "bool"))) xNil)))) (xChain mLe mLe (xVar 1) (xVar 0) (xVar 2)))))
def F_is_integer : List MV → M MV := fnM 3 3 B_is_integer
theorem ok_is_integer (T : TT w K mg) : FnM P w K mg base 1 (He.ga K "is_integer") F_is_integer :=
  okM T.toTp 1 rfl rfl rfl sc_is_integer (fun _ _ _ _ _ _ us hl => match us, hl with | [_, _, _], _ => rfl) (fun cdv A outer s H E hr tk po =>
      (s_one (s_ret (m_and rfl (m_callB (kcall_isi rfl) o_isi (by rfl) (T.free 38 rfl) (by decide +kernel) (m_cons (m_var (pv 0)) (m_cons (m_raw (pty (n := "int") (T.free 37 rfl) (by decide +kernel))) m_nil))) (m_and rfl (m_not rfl (m_callB (kcall_isi rfl) o_isi (by rfl) (T.free 38 rfl) (by decide +kernel) (m_cons (m_var (pv 0)) (m_cons (m_raw (pty (n := "bool") (T.free 34 rfl) (by decide +kernel))) m_nil)))) (m_one (m_chain op_le o_ord op_le o_ord (m_var (pv 1)) (m_var (pv 0)) (m_var (pv 2)))))))))
def B_is_text : MS :=
  (sRet (xAnd (x1 mIsi2 (xCons (xVar 0) (xCons (xC (.raw (.ty "str"))) xNil))) (x1 mAll (xCons (xLc false (x1 iAny (xVar 0)) (cNm 1) cYes (x2 (mIn2 false) (xVar 1) (xC (.str "abcd"))) [1]) xNil))))
def F_is_text : List MV → M MV := fnM 1 2 B_is_text
theorem ok_is_text (T : TT w K mg) : FnM P w K mg base 1 (He.ga K "is_text") F_is_text :=
  okM T.toTp 2 rfl rfl rfl sc_is_text (fun _ _ _ _ _ _ us hl => match us, hl with | [_], _ => rfl) (fun cdv A outer s H E hr tk po =>
      (s_one (s_ret (m_and rfl (m_callB (kcall_isi rfl) o_isi (by rfl) (T.free 38 rfl) (by decide +kernel) (m_cons (m_var (pv 0)) (m_cons (m_raw (pty (n := "str") (T.free 46 rfl) (by decide +kernel))) m_nil))) (m_one (m_callB (kcr_all rfl rfl) o_all (by rfl) (T.free 32 rfl) (by decide +kernel) (m_cons (m_lc (own := [("letter", 1)]) (g := (gName 1)) rfl sc_is_text.nd (i_any rfl (m_var (pv 0))) (tg_nm (by decide)) (blkOk_by (own := [("letter", 1)]) (N := N_is_text) (sc := defScope (top 9)) (by decide +kernel)) (fun _ _ _ _ _ => (pg_name (i := 1) sc_is_text.nd rfl (Or.inl rfl))) (fun _ _ _ _ _ => c_yes) (fun _ _ _ _ _ => (m_in rfl (hu_of hr) (m_var (pv 1)) (m_gstr (pgs (T.str 23 rfl))) (by rfl)))) m_nil)))))))
def B_is_pair : MS :=
  (sSeq (sIf (tOrM (tNoM (tst (x1 mIsi2 (xCons (xVar 0) (xCons (xC (.raw (.ty "tuple"))) xNil))))) (tsb (x2 mNeS (x1 mLen (xCons (xVar 0) xNil)) (xC (.int 2)))))
  (sRet (xC (.bl false)))
  sNop)
  (sSeq (sAsg (xVar 0) (gTp 2 (gCn (gNm 1) (gCn (gNm 2) gNl))))
  (sRet (xAnd (x1 F_is_text (xCons (xVar 1) xNil)) (xAnd (x2 mLe (x1 mLen (xCons (xVar 1) xNil)) (xC (.int 20))) (x1 F_is_integer (xCons (xVar 2) (xCons (xC (.int 0)) (xCons (xC (.int 1000000000000000000000000000000000000000000000000000000000000)) xNil)))))))))
def F_is_pair : List MV → M MV := fnM 1 3 B_is_pair
theorem ok_is_pair (T : TT w K mg) : FnM P w K mg base 2 (He.ga K "is_pair") F_is_pair :=
  okM T.toTp 3 rfl rfl rfl sc_is_pair (fun _ _ _ _ _ _ us hl => match us, hl with | [_], _ => rfl) (fun cdv A outer s H E hr tk po =>
      (s_cons (s_if (PW.pt (tOr_ (t_not (t_tru rfl (m_callB (kcall_isi rfl) o_isi (by rfl) (T.free 38 rfl) (by decide +kernel) (m_cons (m_var (pv 0)) (m_cons (m_raw (pty (n := "tuple") (T.free 48 rfl) (by decide +kernel))) m_nil))) (by intro _; rfl))) (pw_or1 (t_cmp (a_neS rfl hr.units) o_neS (m_callB (kcr_len rfl) o_len (by rfl) (T.free 39 rfl) (by decide +kernel) (m_cons (m_var (pv 0)) m_nil)) m_int (nomark _)))))
      (s_one (s_ret m_bl))
      s_nil)
      (s_cons (s_asg (m_var (pv 0)) (g_tup rfl rfl (g_cons (g_name (i := 1) sc_is_pair.nd rfl (Or.inl rfl)) (g_cons (g_name (i := 2) sc_is_pair.nd rfl (Or.inl rfl)) g_nil))))
      (s_one (s_ret (m_and rfl (m_call rfl (ok_is_text T) (hr.mono (by decide)) (T.glo 2 rfl) (T.kp 2 rfl) tk (m_cons (m_var (pv 1)) m_nil)) (m_and rfl (m_cmp op_le o_ord (m_callB (kcr_len rfl) o_len (by rfl) (T.free 39 rfl) (by decide +kernel) (m_cons (m_var (pv 1)) m_nil)) (m_gint (pgi (T.int 25 rfl))) (nomark _)) (m_one (m_call rfl (ok_is_integer T) (hr.mono (by decide)) (T.glo 1 rfl) (T.kp 1 rfl) tk (m_cons (m_var (pv 2)) (m_cons m_int (m_cons (m_gint (pgi (T.int 27 rfl))) m_nil))))))))))))
def B_root : MS :=
  (sRet (xSl false (xVar 0) xNoP (xPart (xBM "str" mFind3 (x2 (mAdd false) (xVar 0) (xVar 0)) (xCons (xVar 0) (xCons (xC (.int 1)) xNil))))))
def F_root : List MV → M MV := fnM 1 1 B_root
theorem ok_root (T : TT w K mg) : FnM P w K mg base 1 (He.ga K "root") F_root :=
  okM T.toTp 4 rfl rfl rfl sc_root (fun _ _ _ _ _ _ us hl => match us, hl with | [_], _ => rfl) (fun cdv A outer s H E hr tk po =>
      (s_one (s_ret (m_slice false rfl (m_var (pv 0)) m_poN (m_po (m_bm rfl PySem.F.plainAttrs_str PySem.F.slot_str_find PySem.F.type_str_find mt_find3 o_find3 (m_bin (a_add rfl) (o_add false) (m_var (pv 0)) (m_var (pv 0))) (m_cons (m_var (pv 0)) (m_cons m_int m_nil))))))))
def B_tidy : MS :=
  (sSeq (sSet 1 (x1 (mLst true) xNil))
  (sSeq (sFor (x1 iAny (xVar 0)) (gTp 2 (gCn (gNm 2) (gCn (gNm 3) gNl)))
  (sIf (tAnM (tsb (x2 mNeS (xVar 2) (xC (.str "")))) (tsb (x2 mGt (xVar 3) (xC (.int 0)))))
  (sSeq (sSet 4 (x1 F_root (xCons (xVar 2) xNil)))
  (sSeq (sSet 5 (x2 (mMul false) (xVar 3) (x2 mFdv (x1 mLen (xCons (xVar 2) xNil)) (x1 mLen (xCons (xVar 4) xNil)))))
  (sSeq (sIf (tAnM (tsb (x2 mNeS (xVar 1) (x1 (mLst false) xNil))) (tsb (x2 mEqS (x2 mSub2 (x2 mSub2 (xVar 1) (x1 mNeg (xC (.int 1)))) (xC (.int 0))) (xVar 4))))
  (sSet 5 (x2 (mAdd false) (xVar 5) (x2 mSub2 (xBM "list" mPop (xVar 1) xNil) (xC (.int 1)))))
  sNop)
  (sDrop (xBM "list" mAppend (xVar 1) (xCons (x1 mTup (xCons (xVar 4) (xCons (xVar 5) xNil))) xNil))))))
  sNop))
  (sRet (xVar 1))))
def F_tidy : List MV → M MV := fnM 1 6 B_tidy
theorem ok_tidy (T : TT w K mg) : FnM P w K mg base 2 (He.ga K "tidy") F_tidy :=
  okM T.toTp 5 rfl rfl rfl sc_tidy (fun _ _ _ _ _ _ us hl => match us, hl with | [_], _ => rfl) (fun cdv A outer s H E hr tk po =>
      (s_cons (s_set (i := 1) sc_tidy.nd rfl (Or.inl rfl) (m_lst true m_nil))
      (s_cons (s_for po rfl (i_any rfl (m_var (pv 0))) (g_tup rfl rfl (g_cons (g_name (i := 2) sc_tidy.nd rfl (Or.inl rfl)) (g_cons (g_name (i := 3) sc_tidy.nd rfl (Or.inl rfl)) g_nil)))
      (s_one (s_if (PW.pt (tAnd_ (t_cmp (a_neS rfl hr.units) o_neS (m_var (pv 2)) m_str (nomark _)) (pw_and1 (t_cmp op_gt o_ord (m_var (pv 3)) m_int (nomark _)))))
      (s_cons (s_set (i := 4) sc_tidy.nd rfl (Or.inl rfl) (m_call rfl (ok_root T) (hr.mono (by decide)) (T.glo 4 rfl) (T.kp 4 rfl) tk (m_cons (m_var (pv 2)) m_nil)))
      (s_cons (s_set (i := 5) sc_tidy.nd rfl (Or.inl rfl) (m_bin (a_mul rfl) (o_mul false) (m_var (pv 3)) (m_bin op_fdivW o_fdv (m_callB (kcr_len rfl) o_len (by rfl) (T.free 39 rfl) (by decide +kernel) (m_cons (m_var (pv 2)) m_nil)) (m_callB (kcr_len rfl) o_len (by rfl) (T.free 39 rfl) (by decide +kernel) (m_cons (m_var (pv 4)) m_nil)))))
      (s_cons (s_if (PW.pt (tAnd_ (t_cmp (a_neS rfl hr.units) o_neS (m_var (pv 1)) (m_lst false m_nil) (nomark _)) (pw_and1 (t_cmp (a_eqS rfl hr.units) o_eqS (m_sub rfl (hu_of hr) (m_sub rfl (hu_of hr) (m_var (pv 1)) (m_un un_neg o_neg m_int) (fun _ _ => rfl)) m_int (fun _ _ => rfl)) (m_var (pv 4)) (nomark _)))))
      (s_one (s_set (i := 5) sc_tidy.nd rfl (Or.inl rfl) (m_bin (a_add rfl) (o_add false) (m_var (pv 5)) (m_sub rfl (hu_of hr) (m_bm0 rfl PySem.F.plainAttrs_list PySem.F.slot_list_pop PySem.F.type_list_pop a_pop o_pop (m_var (pv 1))) m_int (fun _ _ => rfl)))))
      s_nil)
      (s_one (s_drop (m_bm rfl PySem.F.plainAttrs_list PySem.F.slot_list_append PySem.F.type_list_append mt_append o_append (m_var (pv 1)) (m_cons (m_tup (m_cons (m_var (pv 4)) (m_cons (m_var (pv 5)) m_nil))) m_nil)))))))
      s_nil)))
      (s_one (s_ret (m_var (pv 1)))))))
def B_Repeats___init__ : MS :=
  (sSeq (sIf (tst (x1 (mIsO "Runs" ["Runs", "Repeats"]) (xVar 1)))
  (sSeq (sFldM ["Repeats"] "runs" (x1 (mFld ["Runs"] "tidied") (xVar 1)) (xVar 0))
  sRetN)
  sNop)
  (sSeq (sIf (tOrM (tNoM (tst (x1 mIsi2 (xCons (xVar 1) (xCons (xC (.raw (.ty "list"))) xNil))))) (tOrM (tsb (x2 mGt (x1 mLen (xCons (xVar 1) xNil)) (xC (.int 50)))) (tNoM (tst (x1 mAll (xCons (xLc false (x1 iAny (xVar 1)) (cNm 2) cYes (x1 F_is_pair (xCons (xVar 2) xNil)) [2]) xNil))))))
  (sRaise0 "BadList")
  sNop)
  (sFldM ["Repeats"] "runs" (x1 F_tidy (xCons (xVar 1) xNil)) (xVar 0))))
def F_Repeats___init__ : List MV → M MV := fnM 2 3 B_Repeats___init__
theorem ok_Repeats___init__ (T : TT w K mg) : FnM P w K mg base 3 (He.ma K (He.ga K "Repeats") "__init__") F_Repeats___init__ :=
  okM T.toTp 10 rfl rfl rfl sc_Repeats___init__ (fun _ _ _ _ _ _ us hl => match us, hl with | [_, _], _ => rfl) (fun cdv A outer s H E hr tk po =>
      (s_cons (s_if (t_tru rfl (m_isO rfl (exq_0 T) (.cons (Mi.Tp.cls_ T.toTp 50 rfl) (.cons (Mi.Tp.cls_ T.toTp 53 rfl) .nil)) (by rfl) (T.free 38 rfl) (T.glo 21 rfl) (m_var (pv 1))) (by intro _; rfl))
      (s_cons (s_fld rfl (.cons (Mi.Tp.cls_ T.toTp 53 rfl) (Mi.Tp.noat_ T.toTp 58 rfl) .nil) (m_fld rfl (.cons (Mi.Tp.cls_ T.toTp 50 rfl) (Mi.Tp.noat_ T.toTp 52 rfl) .nil) (m_var (pv 1)) rfl) (m_var (pv 0)))
      (s_one s_retN))
      s_nil)
      (s_cons (s_if (PW.pt (tOr_ (t_not (t_tru rfl (m_callB (kcall_isi rfl) o_isi (by rfl) (T.free 38 rfl) (by decide +kernel) (m_cons (m_var (pv 1)) (m_cons (m_raw (pty (n := "list") (T.free 40 rfl) (by decide +kernel))) m_nil))) (by intro _; rfl))) (tOr_ (t_cmp op_gt o_ord (m_callB (kcr_len rfl) o_len (by rfl) (T.free 39 rfl) (by decide +kernel) (m_cons (m_var (pv 1)) m_nil)) (m_gint (pgi (T.int 24 rfl))) (nomark _)) (pw_or1 (t_not (t_tru rfl (m_callB (kcr_all rfl rfl) o_all (by rfl) (T.free 32 rfl) (by decide +kernel) (m_cons (m_lc (own := [("pair", 2)]) (g := (gName 2)) rfl sc_Repeats___init__.nd (i_any rfl (m_var (pv 1))) (tg_nm (by decide)) (blkOk_by (own := [("pair", 2)]) (N := N_Repeats___init__) (sc := defScope (inClass (top 22) 0)) (by decide +kernel)) (fun _ _ _ _ _ => (pg_name (i := 2) sc_Repeats___init__.nd rfl (Or.inl rfl))) (fun _ _ _ _ _ => c_yes) (fun _ _ _ _ _ => (m_call rfl (ok_is_pair T) (hr.mono (by decide)) (T.glo 3 rfl) (T.kp 3 rfl) takesF (m_cons (m_var (pv 2)) m_nil)))) m_nil)) (by intro _; rfl)))))))
      (s_one (s_raiseB rfl rfl tk PySem.F.excBase_ValueError (T.glo 18 rfl) (exq_1 T)))
      s_nil)
      (s_one (s_fld rfl (.cons (Mi.Tp.cls_ T.toTp 53 rfl) (Mi.Tp.noat_ T.toTp 58 rfl) .nil) (m_call rfl (ok_tidy T) (hr.mono (by decide)) (T.glo 5 rfl) (T.kp 5 rfl) tk (m_cons (m_var (pv 1)) m_nil)) (m_var (pv 0)))))))
def B_Runs___init__ : MS :=
  (sFldM ["Runs"] "tidied" (x1 F_tidy (xCons (xVar 1) xNil)) (xVar 0))
def F_Runs___init__ : List MV → M MV := fnM 2 2 B_Runs___init__
theorem ok_Runs___init__ (T : TT w K mg) : FnM P w K mg base 3 (He.ma K (He.ga K "Runs") "__init__") F_Runs___init__ :=
  okM T.toTp 9 rfl rfl rfl sc_Runs___init__ (fun _ _ _ _ _ _ us hl => match us, hl with | [_, _], _ => rfl) (fun cdv A outer s H E hr tk po =>
      (s_one (s_fld rfl (.cons (Mi.Tp.cls_ T.toTp 50 rfl) (Mi.Tp.noat_ T.toTp 52 rfl) .nil) (m_call rfl (ok_tidy T) (hr.mono (by decide)) (T.glo 5 rfl) (T.kp 5 rfl) tk (m_cons (m_var (pv 1)) m_nil)) (m_var (pv 0)))))
def B_Repeats___add__ : MS :=
  (sRet (x1 (mMake "Repeats" F_Repeats___init__) (xCons (x1 (mMake "Runs" F_Runs___init__) (xCons (x1 (mLst false) (xStar (x1 (mFld ["Repeats"] "runs") (xVar 0)) (xStar (x1 (mFld ["Repeats"] "runs") (xVar 1)) xNil))) xNil)) xNil)))
def F_Repeats___add__ : List MV → M MV := fnM 2 2 B_Repeats___add__
theorem ok_Repeats___add__ (T : TT w K mg) : FnM P w K mg base 5 (He.ma K (He.ga K "Repeats") "__add__") F_Repeats___add__ :=
  okM T.toTp 17 rfl rfl rfl sc_Repeats___add__ (fun _ _ _ _ _ _ us hl => match us, hl with | [_, _], _ => rfl) (fun cdv A outer s H E hr tk po =>
      (s_one (s_ret (m_make rfl (Mi.Tp.mkr_ T.toTp 54 rfl) (ok_Repeats___init__ T) (hr.mono (by decide)) (T.glo 22 rfl) tk (m_cons (m_make rfl (Mi.Tp.mkr_ T.toTp 51 rfl) (ok_Runs___init__ T) (hr.mono (by decide)) (T.glo 21 rfl) tk (m_cons (m_lst false (m_star rfl (m_fld rfl (.cons (Mi.Tp.cls_ T.toTp 53 rfl) (Mi.Tp.noat_ T.toTp 58 rfl) .nil) (m_var (pv 0)) rfl) (m_star rfl (m_fld rfl (.cons (Mi.Tp.cls_ T.toTp 53 rfl) (Mi.Tp.noat_ T.toTp 58 rfl) .nil) (m_var (pv 1)) rfl) m_nil))) m_nil)) m_nil)))))
def B_Repeats___bool__ : MS :=
  (sRet (x2 mGt (x1 mLen (xCons (x1 (mFld ["Repeats"] "runs") (xVar 0)) xNil)) (xC (.int 0))))
def F_Repeats___bool__ : List MV → M MV := fnM 1 1 B_Repeats___bool__
theorem ok_Repeats___bool__ (T : TT w K mg) : FnM P w K mg base 1 (He.ma K (He.ga K "Repeats") "__bool__") F_Repeats___bool__ :=
  okM T.toTp 20 rfl rfl rfl sc_Repeats___bool__ (fun _ _ _ _ _ _ us hl => match us, hl with | [_], _ => rfl) (fun cdv A outer s H E hr tk po =>
      (s_one (s_ret (m_cmp op_gt o_ord (m_callB (kcr_len rfl) o_len (by rfl) (T.free 39 rfl) (by decide +kernel) (m_cons (m_fld rfl (.cons (Mi.Tp.cls_ T.toTp 53 rfl) (Mi.Tp.noat_ T.toTp 58 rfl) .nil) (m_var (pv 0)) rfl) m_nil)) m_int (nomark _)))))
def B_Repeats_length : MS :=
  (sRet (x1 mSum (xCons (xLc false (x1 iAny (x1 (mFld ["Repeats"] "runs") (xVar 0))) (cTp [1, 2]) cYes (x2 (mMul false) (x1 mLen (xCons (xVar 1) xNil)) (xVar 2)) [1, 2]) xNil)))
def F_Repeats_length : List MV → M MV := fnM 1 3 B_Repeats_length
theorem ok_Repeats_length (T : TT w K mg) : FnB P w K mg base 1 (gad K "Repeats" "length") F_Repeats_length :=
  okMY T 0 rfl rfl rfl sc_Repeats_length (fun _ _ _ _ _ _ us hl => match us, hl with | [_], _ => rfl) (fun cdv A outer s H E hr tk po =>
      (s_one (s_ret (m_callB (kcr_sum rfl rfl) o_sum (by rfl) (T.free 47 rfl) (by decide +kernel) (m_cons (m_lc (own := [("part", 1), ("times", 2)]) (g := (gTup K 2 (gNs [1, 2]))) rfl sc_Repeats_length.nd (i_any rfl (m_fld rfl (.cons (Mi.Tp.cls_ T.toTp 53 rfl) (Mi.Tp.noat_ T.toTp 58 rfl) .nil) (m_var (pv 0)) rfl)) (tg_tp (by decide) rfl) (blkOk_by (own := [("part", 1), ("times", 2)]) (N := N_Repeats_length) (sc := defScope (inClass (top 22) 2)) (by decide +kernel)) (fun _ _ _ _ _ => (kpg_tup (K := K) rfl rfl (pgs_cons (pg_name (i := 1) sc_Repeats_length.nd rfl (Or.inl rfl)) (pgs_cons (pg_name (i := 2) sc_Repeats_length.nd rfl (Or.inl rfl)) pgs_nil)))) (fun _ _ _ _ _ => c_yes) (fun _ _ _ _ _ => (m_bin (a_mul rfl) (o_mul false) (m_callB (kcr_len rfl) o_len (by rfl) (T.free 39 rfl) (by decide +kernel) (m_cons (m_var (pv 1)) m_nil)) (m_var (pv 2))))) m_nil)))))
def B_stretch : MS :=
  (sSeq (sSet 3 (x2 mMod (xVar 1) (x1 mLen (xCons (xVar 0) xNil))))
  (sSeq (sSet 4 (x2 (mAdd false) (x2 mFdv (x2 (mAdd false) (xVar 3) (xVar 2)) (x1 mLen (xCons (xVar 0) xNil))) (xC (.int 1))))
  (sRet (xSl false (x2 (mMul false) (xVar 0) (xVar 4)) (xPart (xVar 3)) (xPart (x2 (mAdd false) (xVar 3) (xVar 2)))))))
def F_stretch : List MV → M MV := fnM 3 5 B_stretch
theorem ok_stretch (T : TT w K mg) : FnM P w K mg base 1 (He.ga K "stretch") F_stretch :=
  okM T.toTp 6 rfl rfl rfl sc_stretch (fun _ _ _ _ _ _ us hl => match us, hl with | [_, _, _], _ => rfl) (fun cdv A outer s H E hr tk po =>
      (s_cons (s_set (i := 3) sc_stretch.nd rfl (Or.inl rfl) (m_bin op_mod o_mod (m_var (pv 1)) (m_callB (kcr_len rfl) o_len (by rfl) (T.free 39 rfl) (by decide +kernel) (m_cons (m_var (pv 0)) m_nil))))
      (s_cons (s_set (i := 4) sc_stretch.nd rfl (Or.inl rfl) (m_bin (a_add rfl) (o_add false) (m_bin op_fdivW o_fdv (m_bin (a_add rfl) (o_add false) (m_var (pv 3)) (m_var (pv 2))) (m_callB (kcr_len rfl) o_len (by rfl) (T.free 39 rfl) (by decide +kernel) (m_cons (m_var (pv 0)) m_nil))) m_int))
      (s_one (s_ret (m_slice false rfl (m_bin (a_mul rfl) (o_mul false) (m_var (pv 0)) (m_var (pv 4))) (m_po (m_var (pv 3))) (m_po (m_bin (a_add rfl) (o_add false) (m_var (pv 3)) (m_var (pv 2))))))))))
def B_same_items : MS :=
  (sSeq (sAsg4 (xC (.int 0)) (gNm 2) (gNm 3) (gNm 4) (gNm 5))
  (sSeq (sWhile (tsb (x2 mLt (xVar 2) (x1 mLen (xCons (xVar 0) xNil))))
  (sSeq (sAsg (x2 mSub2 (xVar 0) (xVar 2)) (gTp 2 (gCn (gNm 6) (gCn (gNm 7) gNl))))
  (sSeq (sAsg (x2 mSub2 (xVar 1) (xVar 3)) (gTp 2 (gCn (gNm 8) (gCn (gNm 9) gNl))))
  (sSeq (sSet 10 (x1 mMin (xCons (x2 mSub (x2 (mMul false) (x1 mLen (xCons (xVar 6) xNil)) (xVar 7)) (xVar 4)) (xCons (x2 mSub (x2 (mMul false) (x1 mLen (xCons (xVar 8) xNil)) (xVar 9)) (xVar 5)) xNil))))
  (sSeq (sSet 11 (x1 mMin (xCons (xVar 10) (xCons (x2 (mAdd false) (x1 mLen (xCons (xVar 6) xNil)) (x1 mLen (xCons (xVar 8) xNil))) xNil))))
  (sSeq (sIf (tsb (x2 mNeS (x1 F_stretch (xCons (xVar 6) (xCons (xVar 4) (xCons (xVar 11) xNil)))) (x1 F_stretch (xCons (xVar 8) (xCons (xVar 5) (xCons (xVar 11) xNil))))))
  (sRet (xC (.bl false)))
  sNop)
  (sSeq (sSet 4 (x2 (mAdd false) (xVar 4) (xVar 10)))
  (sSeq (sSet 5 (x2 (mAdd false) (xVar 5) (xVar 10)))
  (sSeq (sIf (tsb (x2 mEqS (xVar 4) (x2 (mMul false) (x1 mLen (xCons (xVar 6) xNil)) (xVar 7))))
  (sPar 2 4 (xCons (x2 (mAdd false) (xVar 2) (xC (.int 1))) (xCons (xC (.int 0)) xNil)))
  sNop)
  (sIf (tsb (x2 mEqS (xVar 5) (x2 (mMul false) (x1 mLen (xCons (xVar 8) xNil)) (xVar 9))))
  (sPar 3 5 (xCons (x2 (mAdd false) (xVar 3) (xC (.int 1))) (xCons (xC (.int 0)) xNil)))
  sNop)))))))))
  sNop)
  (sRet (xC (.bl true)))))
def F_same_items : List MV → M MV := fnM 2 12 B_same_items
theorem ok_same_items (T : TT w K mg) : FnM P w K mg base 2 (He.ga K "same_items") F_same_items :=
  okM T.toTp 8 rfl rfl rfl sc_same_items (fun _ _ _ _ _ _ us hl => match us, hl with | [_, _], _ => rfl) (fun cdv A outer s H E hr tk po =>
      (s_cons (s_asg4 m_int (g_name (i := 2) sc_same_items.nd rfl (Or.inl rfl)) (g_name (i := 3) sc_same_items.nd rfl (Or.inl rfl)) (g_name (i := 4) sc_same_items.nd rfl (Or.inl rfl)) (g_name (i := 5) sc_same_items.nd rfl (Or.inl rfl)))
      (s_cons (s_while po (t_cmp op_lt o_ord (m_var (pv 2)) (m_callB (kcr_len rfl) o_len (by rfl) (T.free 39 rfl) (by decide +kernel) (m_cons (m_var (pv 0)) m_nil)) (nomark _))
      (s_cons (s_asg (m_sub rfl (hu_of hr) (m_var (pv 0)) (m_var (pv 2)) (fun _ _ => rfl)) (g_tup rfl rfl (g_cons (g_name (i := 6) sc_same_items.nd rfl (Or.inl rfl)) (g_cons (g_name (i := 7) sc_same_items.nd rfl (Or.inl rfl)) g_nil))))
      (s_cons (s_asg (m_sub rfl (hu_of hr) (m_var (pv 1)) (m_var (pv 3)) (fun _ _ => rfl)) (g_tup rfl rfl (g_cons (g_name (i := 8) sc_same_items.nd rfl (Or.inl rfl)) (g_cons (g_name (i := 9) sc_same_items.nd rfl (Or.inl rfl)) g_nil))))
      (s_cons (s_set (i := 10) sc_same_items.nd rfl (Or.inl rfl) (m_callB (call_min2 rfl) o_min (by rfl) (T.free 42 rfl) (by decide +kernel) (m_cons (m_bin op_sub o_sub (m_bin (a_mul rfl) (o_mul false) (m_callB (kcr_len rfl) o_len (by rfl) (T.free 39 rfl) (by decide +kernel) (m_cons (m_var (pv 6)) m_nil)) (m_var (pv 7))) (m_var (pv 4))) (m_cons (m_bin op_sub o_sub (m_bin (a_mul rfl) (o_mul false) (m_callB (kcr_len rfl) o_len (by rfl) (T.free 39 rfl) (by decide +kernel) (m_cons (m_var (pv 8)) m_nil)) (m_var (pv 9))) (m_var (pv 5))) m_nil))))
      (s_cons (s_set (i := 11) sc_same_items.nd rfl (Or.inl rfl) (m_callB (call_min2 rfl) o_min (by rfl) (T.free 42 rfl) (by decide +kernel) (m_cons (m_var (pv 10)) (m_cons (m_bin (a_add rfl) (o_add false) (m_callB (kcr_len rfl) o_len (by rfl) (T.free 39 rfl) (by decide +kernel) (m_cons (m_var (pv 6)) m_nil)) (m_callB (kcr_len rfl) o_len (by rfl) (T.free 39 rfl) (by decide +kernel) (m_cons (m_var (pv 8)) m_nil))) m_nil))))
      (s_cons (s_if (t_cmp (a_neS rfl hr.units) o_neS (m_call rfl (ok_stretch T) (hr.mono (by decide)) (T.glo 6 rfl) (T.kp 6 rfl) tk (m_cons (m_var (pv 6)) (m_cons (m_var (pv 4)) (m_cons (m_var (pv 11)) m_nil)))) (m_call rfl (ok_stretch T) (hr.mono (by decide)) (T.glo 6 rfl) (T.kp 6 rfl) tk (m_cons (m_var (pv 8)) (m_cons (m_var (pv 5)) (m_cons (m_var (pv 11)) m_nil)))) (nomark _))
      (s_one (s_ret m_bl))
      s_nil)
      (s_cons (s_set (i := 4) sc_same_items.nd rfl (Or.inl rfl) (m_bin (a_add rfl) (o_add false) (m_var (pv 4)) (m_var (pv 10))))
      (s_cons (s_set (i := 5) sc_same_items.nd rfl (Or.inl rfl) (m_bin (a_add rfl) (o_add false) (m_var (pv 5)) (m_var (pv 10))))
      (s_cons (s_if (t_cmp (a_eqS rfl hr.units) o_eqS (m_var (pv 4)) (m_bin (a_mul rfl) (o_mul false) (m_callB (kcr_len rfl) o_len (by rfl) (T.free 39 rfl) (by decide +kernel) (m_cons (m_var (pv 6)) m_nil)) (m_var (pv 7))) (nomark _))
      (s_one (s_par (i := 2) (j := 4) rfl sc_same_items.nd rfl rfl (by decide) rfl rfl (m_cons (m_bin (a_add rfl) (o_add false) (m_var (pv 2)) m_int) (m_cons m_int m_nil)) (by rfl)))
      s_nil)
      (s_one (s_if (t_cmp (a_eqS rfl hr.units) o_eqS (m_var (pv 5)) (m_bin (a_mul rfl) (o_mul false) (m_callB (kcr_len rfl) o_len (by rfl) (T.free 39 rfl) (by decide +kernel) (m_cons (m_var (pv 8)) m_nil)) (m_var (pv 9))) (nomark _))
      (s_one (s_par (i := 3) (j := 5) rfl sc_same_items.nd rfl rfl (by decide) rfl rfl (m_cons (m_bin (a_add rfl) (o_add false) (m_var (pv 3)) m_int) (m_cons m_int m_nil)) (by rfl)))
      s_nil))))))))))
      s_nil)
      (s_one (s_ret m_bl)))))
def B_Repeats___eq__ : MS :=
  (sSeq (sIf (tOrM (tNoM (tst (x1 (mIsO "Repeats" ["Runs", "Repeats"]) (xVar 1)))) (tsb (x2 mNeS (x1 (mPrp "Repeats" F_Repeats_length) (xVar 0)) (x1 (mPrp "Repeats" F_Repeats_length) (xVar 1)))))
  (sRet (xC (.bl false)))
  sNop)
  (sRet (x1 F_same_items (xCons (x1 (mFld ["Repeats"] "runs") (xVar 0)) (xCons (x1 (mFld ["Repeats"] "runs") (xVar 1)) xNil)))))
def F_Repeats___eq__ : List MV → M MV := fnM 2 2 B_Repeats___eq__
theorem ok_Repeats___eq__ (T : TT w K mg) : FnM P w K mg base 3 (He.ma K (He.ga K "Repeats") "__eq__") F_Repeats___eq__ :=
  okM T.toTp 19 rfl rfl rfl sc_Repeats___eq__ (fun _ _ _ _ _ _ us hl => match us, hl with | [_, _], _ => rfl) (fun cdv A outer s H E hr tk po =>
      (s_cons (s_if (PW.pt (tOr_ (t_not (t_tru rfl (m_isO rfl (exq_2 T) (.cons (Mi.Tp.cls_ T.toTp 50 rfl) (.cons (Mi.Tp.cls_ T.toTp 53 rfl) .nil)) (by rfl) (T.free 38 rfl) (T.glo 22 rfl) (m_var (pv 1))) (by intro _; rfl))) (pw_or1 (t_cmp (a_neS rfl hr.units) o_neS (m_prpC rfl (Mi.Tp.cls_ T.toTp 53 rfl) (exq_3 T) (ok_Repeats_length T) (hr.mono (by decide)) (m_var (pv 0)) rfl) (m_prpC rfl (Mi.Tp.cls_ T.toTp 53 rfl) (exq_3 T) (ok_Repeats_length T) (hr.mono (by decide)) (m_var (pv 1)) rfl) (nomark _)))))
      (s_one (s_ret m_bl))
      s_nil)
      (s_one (s_ret (m_call rfl (ok_same_items T) (hr.mono (by decide)) (T.glo 8 rfl) (T.kp 8 rfl) tk (m_cons (m_fld rfl (.cons (Mi.Tp.cls_ T.toTp 53 rfl) (Mi.Tp.noat_ T.toTp 58 rfl) .nil) (m_var (pv 0)) rfl) (m_cons (m_fld rfl (.cons (Mi.Tp.cls_ T.toTp 53 rfl) (Mi.Tp.noat_ T.toTp 58 rfl) .nil) (m_var (pv 1)) rfl) m_nil)))))))
def B_Repeats___getitem__ : MS :=
  (sSeq (sIf (tNoM (tst (x1 F_is_integer (xCons (xVar 1) (xCons (xC (.int 0)) (xCons (x2 mSub (x1 (mPrp "Repeats" F_Repeats_length) (xVar 0)) (xC (.int 1))) xNil))))))
  (sRaise0 "NoIndex")
  sNop)
  (sSeq (sSet 2 (xC (.int 0)))
  (sSeq (sFor (x1 iAny (x1 (mFld ["Repeats"] "runs") (xVar 0))) (gTp 2 (gCn (gNm 3) (gCn (gNm 4) gNl)))
  (sSeq (sIf (tsb (x2 mLt (xVar 1) (x2 (mAdd false) (xVar 2) (x2 (mMul false) (x1 mLen (xCons (xVar 3) xNil)) (xVar 4)))))
  (sRet (x2 mSub2 (xVar 3) (x2 mMod (x2 mSub (xVar 1) (xVar 2)) (x1 mLen (xCons (xVar 3) xNil)))))
  sNop)
  (sSet 2 (x2 (mAdd false) (xVar 2) (x2 (mMul false) (x1 mLen (xCons (xVar 3) xNil)) (xVar 4))))))
  (sRet (xC (.str ""))))))
def F_Repeats___getitem__ : List MV → M MV := fnM 2 5 B_Repeats___getitem__
theorem ok_Repeats___getitem__ (T : TT w K mg) : FnM P w K mg base 3 (He.ma K (He.ga K "Repeats") "__getitem__") F_Repeats___getitem__ :=
  okM T.toTp 12 rfl rfl rfl sc_Repeats___getitem__ (fun _ _ _ _ _ _ us hl => match us, hl with | [_, _], _ => rfl) (fun cdv A outer s H E hr tk po =>
      (s_cons (s_if (t_not (t_tru rfl (m_call rfl (ok_is_integer T) (hr.mono (by decide)) (T.glo 1 rfl) (T.kp 1 rfl) tk (m_cons (m_var (pv 1)) (m_cons m_int (m_cons (m_bin op_sub o_sub (m_prpC rfl (Mi.Tp.cls_ T.toTp 53 rfl) (exq_3 T) (ok_Repeats_length T) (hr.mono (by decide)) (m_var (pv 0)) rfl) m_int) m_nil)))) (by intro _; rfl)))
      (s_one (s_raiseB rfl rfl tk PySem.F.excBase_IndexError (T.glo 20 rfl) (exq_4 T)))
      s_nil)
      (s_cons (s_set (i := 2) sc_Repeats___getitem__.nd rfl (Or.inl rfl) m_int)
      (s_cons (s_for po rfl (i_any rfl (m_fld rfl (.cons (Mi.Tp.cls_ T.toTp 53 rfl) (Mi.Tp.noat_ T.toTp 58 rfl) .nil) (m_var (pv 0)) rfl)) (g_tup rfl rfl (g_cons (g_name (i := 3) sc_Repeats___getitem__.nd rfl (Or.inl rfl)) (g_cons (g_name (i := 4) sc_Repeats___getitem__.nd rfl (Or.inl rfl)) g_nil)))
      (s_cons (s_if (t_cmp op_lt o_ord (m_var (pv 1)) (m_bin (a_add rfl) (o_add false) (m_var (pv 2)) (m_bin (a_mul rfl) (o_mul false) (m_callB (kcr_len rfl) o_len (by rfl) (T.free 39 rfl) (by decide +kernel) (m_cons (m_var (pv 3)) m_nil)) (m_var (pv 4)))) (nomark _))
      (s_one (s_ret (m_sub rfl (hu_of hr) (m_var (pv 3)) (m_bin op_mod o_mod (m_bin op_sub o_sub (m_var (pv 1)) (m_var (pv 2))) (m_callB (kcr_len rfl) o_len (by rfl) (T.free 39 rfl) (by decide +kernel) (m_cons (m_var (pv 3)) m_nil))) (fun _ _ => rfl))))
      s_nil)
      (s_one (s_set (i := 2) sc_Repeats___getitem__.nd rfl (Or.inl rfl) (m_bin (a_add rfl) (o_add false) (m_var (pv 2)) (m_bin (a_mul rfl) (o_mul false) (m_callB (kcr_len rfl) o_len (by rfl) (T.free 39 rfl) (by decide +kernel) (m_cons (m_var (pv 3)) m_nil)) (m_var (pv 4))))))))
      (s_one (s_ret m_str))))))
def B_cut : MS :=
  (sSeq (sAsg (x1 mDivmod (xCons (xVar 1) (xCons (x1 mLen (xCons (xVar 0) xNil)) xNil))) (gTp 2 (gCn (gNm 3) (gCn (gNm 4) gNl))))
  (sSeq (sAsg (x1 mDivmod (xCons (xVar 2) (xCons (x1 mLen (xCons (xVar 0) xNil)) xNil))) (gTp 2 (gCn (gNm 5) (gCn (gNm 6) gNl))))
  (sSeq (sIf (tsb (x2 mEqS (xVar 3) (xVar 5)))
  (sRet (x1 (mLst false) (xCons (x1 mTup (xCons (xSl false (xVar 0) (xPart (xVar 4)) (xPart (xVar 6))) (xCons (xC (.int 1)) xNil))) xNil)))
  sNop)
  (sRet (x1 (mLst false) (xCons (x1 mTup (xCons (xSl false (xVar 0) (xPart (xVar 4)) xNoP) (xCons (xC (.int 1)) xNil))) (xCons (x1 mTup (xCons (xVar 0) (xCons (x2 mSub (x2 mSub (xVar 5) (xVar 3)) (xC (.int 1))) xNil))) (xCons (x1 mTup (xCons (xSl false (xVar 0) xNoP (xPart (xVar 6))) (xCons (xC (.int 1)) xNil))) xNil))))))))
def F_cut : List MV → M MV := fnM 3 7 B_cut
theorem ok_cut (T : TT w K mg) : FnM P w K mg base 1 (He.ga K "cut") F_cut :=
  okM T.toTp 7 rfl rfl rfl sc_cut (fun _ _ _ _ _ _ us hl => match us, hl with | [_, _, _], _ => rfl) (fun cdv A outer s H E hr tk po =>
      (s_cons (s_asg (m_callB call_divmodW o_divmod (by rfl) (T.free 36 rfl) (by decide +kernel) (m_cons (m_var (pv 1)) (m_cons (m_callB (kcr_len rfl) o_len (by rfl) (T.free 39 rfl) (by decide +kernel) (m_cons (m_var (pv 0)) m_nil)) m_nil))) (g_tup rfl rfl (g_cons (g_name (i := 3) sc_cut.nd rfl (Or.inl rfl)) (g_cons (g_name (i := 4) sc_cut.nd rfl (Or.inl rfl)) g_nil))))
      (s_cons (s_asg (m_callB call_divmodW o_divmod (by rfl) (T.free 36 rfl) (by decide +kernel) (m_cons (m_var (pv 2)) (m_cons (m_callB (kcr_len rfl) o_len (by rfl) (T.free 39 rfl) (by decide +kernel) (m_cons (m_var (pv 0)) m_nil)) m_nil))) (g_tup rfl rfl (g_cons (g_name (i := 5) sc_cut.nd rfl (Or.inl rfl)) (g_cons (g_name (i := 6) sc_cut.nd rfl (Or.inl rfl)) g_nil))))
      (s_cons (s_if (t_cmp (a_eqS rfl hr.units) o_eqS (m_var (pv 3)) (m_var (pv 5)) (nomark _))
      (s_one (s_ret (m_lst false (m_cons (m_tup (m_cons (m_slice false rfl (m_var (pv 0)) (m_po (m_var (pv 4))) (m_po (m_var (pv 6)))) (m_cons m_int m_nil))) m_nil))))
      s_nil)
      (s_one (s_ret (m_lst false (m_cons (m_tup (m_cons (m_slice false rfl (m_var (pv 0)) (m_po (m_var (pv 4))) m_poN) (m_cons m_int m_nil))) (m_cons (m_tup (m_cons (m_var (pv 0)) (m_cons (m_bin op_sub o_sub (m_bin op_sub o_sub (m_var (pv 5)) (m_var (pv 3))) m_int) m_nil))) (m_cons (m_tup (m_cons (m_slice false rfl (m_var (pv 0)) m_poN (m_po (m_var (pv 6)))) (m_cons m_int m_nil))) m_nil))))))))))
def B_Repeats_part : MS :=
  (sSeq (sIf (tOrM (tNoM (tst (x1 F_is_integer (xCons (xVar 2) (xCons (xC (.int 0)) (xCons (x1 (mPrp "Repeats" F_Repeats_length) (xVar 0)) xNil)))))) (tNoM (tst (x1 F_is_integer (xCons (xVar 1) (xCons (xC (.int 0)) (xCons (xVar 2) xNil)))))))
  (sRaise0 "NoIndex")
  sNop)
  (sSeq (sPar 3 4 (xCons (x1 (mLst true) xNil) (xCons (xC (.int 0)) xNil)))
  (sSeq (sFor (x1 iAny (x1 (mFld ["Repeats"] "runs") (xVar 0))) (gTp 2 (gCn (gNm 5) (gCn (gNm 6) gNl)))
  (sSeq (sSet 7 (x2 (mMul false) (x1 mLen (xCons (xVar 5) xNil)) (xVar 6)))
  (sSeq (sIf (tAnM (tsb (x2 mLt (xVar 1) (x2 (mAdd false) (xVar 4) (xVar 7)))) (tsb (x2 mGt (xVar 2) (xVar 4))))
  (sDrop (xBM "list" mExtS (xVar 3) (xCons (x1 F_cut (xCons (xVar 5) (xCons (x1 mMax (xCons (x2 mSub (xVar 1) (xVar 4)) (xCons (xC (.int 0)) xNil))) (xCons (x1 mMin (xCons (x2 mSub (xVar 2) (xVar 4)) (xCons (xVar 7) xNil))) xNil)))) xNil)))
  sNop)
  (sAug 4 (fun i j => i + j) (xVar 7)))))
  (sRet (x1 (mMake "Repeats" F_Repeats___init__) (xCons (x1 (mMake "Runs" F_Runs___init__) (xCons (xVar 3) xNil)) xNil))))))
def F_Repeats_part : List MV → M MV := fnM 3 8 B_Repeats_part
theorem ok_Repeats_part (T : TT w K mg) : FnM P w K mg base 5 (He.ma K (He.ga K "Repeats") "part") F_Repeats_part :=
  okM T.toTp 13 rfl rfl rfl sc_Repeats_part (fun _ _ _ _ _ _ us hl => match us, hl with | [_, _, _], _ => rfl) (fun cdv A outer s H E hr tk po =>
      (s_cons (s_if (PW.pt (tOr_ (t_not (t_tru rfl (m_call rfl (ok_is_integer T) (hr.mono (by decide)) (T.glo 1 rfl) (T.kp 1 rfl) tk (m_cons (m_var (pv 2)) (m_cons m_int (m_cons (m_prpC rfl (Mi.Tp.cls_ T.toTp 53 rfl) (exq_3 T) (ok_Repeats_length T) (hr.mono (by decide)) (m_var (pv 0)) rfl) m_nil)))) (by intro _; rfl))) (pw_or1 (t_not (t_tru rfl (m_call rfl (ok_is_integer T) (hr.mono (by decide)) (T.glo 1 rfl) (T.kp 1 rfl) tk (m_cons (m_var (pv 1)) (m_cons m_int (m_cons (m_var (pv 2)) m_nil)))) (by intro _; rfl))))))
      (s_one (s_raiseB rfl rfl tk PySem.F.excBase_IndexError (T.glo 20 rfl) (exq_4 T)))
      s_nil)
      (s_cons (s_par (i := 3) (j := 4) rfl sc_Repeats_part.nd rfl rfl (by decide) rfl rfl (m_cons (m_lst true m_nil) (m_cons m_int m_nil)) (by rfl))
      (s_cons (s_for po rfl (i_any rfl (m_fld rfl (.cons (Mi.Tp.cls_ T.toTp 53 rfl) (Mi.Tp.noat_ T.toTp 58 rfl) .nil) (m_var (pv 0)) rfl)) (g_tup rfl rfl (g_cons (g_name (i := 5) sc_Repeats_part.nd rfl (Or.inl rfl)) (g_cons (g_name (i := 6) sc_Repeats_part.nd rfl (Or.inl rfl)) g_nil)))
      (s_cons (s_set (i := 7) sc_Repeats_part.nd rfl (Or.inl rfl) (m_bin (a_mul rfl) (o_mul false) (m_callB (kcr_len rfl) o_len (by rfl) (T.free 39 rfl) (by decide +kernel) (m_cons (m_var (pv 5)) m_nil)) (m_var (pv 6))))
      (s_cons (s_if (PW.pt (tAnd_ (t_cmp op_lt o_ord (m_var (pv 1)) (m_bin (a_add rfl) (o_add false) (m_var (pv 4)) (m_var (pv 7))) (nomark _)) (pw_and1 (t_cmp op_gt o_ord (m_var (pv 2)) (m_var (pv 4)) (nomark _)))))
      (s_one (s_drop (m_bm rfl PySem.F.plainAttrs_list PySem.F.slot_list_extend PySem.F.type_list_extend (a_ext rfl) o_extS (m_var (pv 3)) (m_cons (m_call rfl (ok_cut T) (hr.mono (by decide)) (T.glo 7 rfl) (T.kp 7 rfl) tk (m_cons (m_var (pv 5)) (m_cons (m_callB (call_max2 rfl) o_max (by rfl) (T.free 41 rfl) (by decide +kernel) (m_cons (m_bin op_sub o_sub (m_var (pv 1)) (m_var (pv 4))) (m_cons m_int m_nil))) (m_cons (m_callB (call_min2 rfl) o_min (by rfl) (T.free 42 rfl) (by decide +kernel) (m_cons (m_bin op_sub o_sub (m_var (pv 2)) (m_var (pv 4))) (m_cons (m_var (pv 7)) m_nil))) m_nil)))) m_nil))))
      s_nil)
      (s_one (s_aug (i := 4) sc_Repeats_part.nd rfl (Or.inl rfl) (m_var (pv 7)) ip_add)))))
      (s_one (s_ret (m_make rfl (Mi.Tp.mkr_ T.toTp 54 rfl) (ok_Repeats___init__ T) (hr.mono (by decide)) (T.glo 22 rfl) tk (m_cons (m_make rfl (Mi.Tp.mkr_ T.toTp 51 rfl) (ok_Runs___init__ T) (hr.mono (by decide)) (T.glo 21 rfl) tk (m_cons (m_var (pv 3)) m_nil)) m_nil))))))))
def B__law_bag : MS :=
  (sSeq (sSet 2 (xIf (tsb (x2 mLt (xVar 1) (x1 mLen (xCons (xVar 0) xNil)))) (x2 mSub2 (xVar 0) (xVar 1)) (xC (.int 0))))
  (sSeq (sSet 3 (xIf (tsb (x2 mGe (x1 mAbs (xCons (xVar 2) xNil)) (x2 mPow (xC (.int 10)) (xC (.int 18))))) (x1 mAbs (xCons (xVar 2) xNil)) (xC (.int 0))))
  (sRet (x1 (mLst true) (xCons (xVar 3) (xCons (x2 (mAdd false) (x2 mMod (x2 (mAdd false) (x2 (mAdd false) (x2 (mMul false) (x2 mMod (xVar 2) (xC (.int 2147483647))) (xC (.int 69621))) (x2 (mMul false) (xC (.int 104723)) (xVar 1))) (xC (.int 31))) (xC (.int 2147483629))) (xC (.int 1))) (xCons (xC (.int 0)) xNil)))))))
def F__law_bag : List MV → M MV := fnM 2 4 B__law_bag
theorem ok__law_bag (T : TT w K mg) : FnM P w K mg base 1 (He.ga K "_law_bag") F__law_bag :=
  okM T.toTp 22 rfl rfl rfl sc__law_bag (fun _ _ _ _ _ _ us hl => match us, hl with | [_, _], _ => rfl) (fun cdv A outer s H E hr tk po =>
      (s_cons (s_set (i := 2) sc__law_bag.nd rfl (Or.inl rfl) (m_if (t_cmp op_lt o_ord (m_var (pv 1)) (m_callB (kcr_len rfl) o_len (by rfl) (T.free 39 rfl) (by decide +kernel) (m_cons (m_var (pv 0)) m_nil)) (nomark _)) (m_sub rfl (hu_of hr) (m_var (pv 0)) (m_var (pv 1)) (fun _ _ => rfl)) m_int))
      (s_cons (s_set (i := 3) sc__law_bag.nd rfl (Or.inl rfl) (m_if (t_cmp op_ge o_ord (m_callB call_abs o_abs (by rfl) (T.free 31 rfl) (by decide +kernel) (m_cons (m_var (pv 2)) m_nil)) (m_bin op_pow o_pow m_int m_int) (nomark _)) (m_callB call_abs o_abs (by rfl) (T.free 31 rfl) (by decide +kernel) (m_cons (m_var (pv 2)) m_nil)) m_int))
      (s_one (s_ret (m_lst true (m_cons (m_var (pv 3)) (m_cons (m_bin (a_add rfl) (o_add false) (m_bin op_mod o_mod (m_bin (a_add rfl) (o_add false) (m_bin (a_add rfl) (o_add false) (m_bin (a_mul rfl) (o_mul false) (m_bin op_mod o_mod (m_var (pv 2)) m_int) m_int) (m_bin (a_mul rfl) (o_mul false) m_int (m_var (pv 1)))) m_int) m_int) m_int) (m_cons m_int m_nil)))))))))
def B__law_take : MS :=
  (sSeq (sIf (tsb (x2 mGt (x2 mSub2 (xVar 0) (xC (.int 0))) (xC (.int 0))))
  (sSeq (sSet 2 (x2 mMod (x2 mSub2 (xVar 0) (xC (.int 0))) (xVar 1)))
  (sSeq (sSto (x2 mFdv (x2 mSub2 (xVar 0) (xC (.int 0))) (xVar 1)) (xVar 0) (xC (.int 0)))
  (sRet (xVar 2))))
  sNop)
  (sSeq (sSto (x2 (mAdd false) (x2 mSub2 (xVar 0) (xC (.int 2))) (xC (.int 1))) (xVar 0) (xC (.int 2)))
  (sSeq (sSto (x2 mMod (x2 (mAdd false) (x2 (mAdd false) (x2 (mMul false) (x2 mSub2 (xVar 0) (xC (.int 1))) (xC (.int 48271))) (x2 (mMul false) (xC (.int 7919)) (x2 mSub2 (xVar 0) (xC (.int 2))))) (xC (.int 13))) (xC (.int 2147483647))) (xVar 0) (xC (.int 1)))
  (sRet (x2 mMod (x2 mMod (x2 mPow (x2 mFdv (x2 mSub2 (xVar 0) (xC (.int 1))) (xC (.int 8))) (xC (.int 2))) (xC (.int 2147483629))) (xVar 1))))))
def F__law_take : List MV → M MV := fnM 2 3 B__law_take
theorem ok__law_take (T : TT w K mg) : FnM P w K mg base 1 (He.ga K "_law_take") F__law_take :=
  okM T.toTp 23 rfl rfl rfl sc__law_take (fun _ _ _ _ _ _ us hl => match us, hl with | [_, _], _ => rfl) (fun cdv A outer s H E hr tk po =>
      (s_cons (s_if (t_cmp op_gt o_ord (m_sub rfl (hu_of hr) (m_var (pv 0)) m_int (fun _ _ => rfl)) m_int (nomark _))
      (s_cons (s_set (i := 2) sc__law_take.nd rfl (Or.inl rfl) (m_bin op_mod o_mod (m_sub rfl (hu_of hr) (m_var (pv 0)) m_int (fun _ _ => rfl)) (m_var (pv 1))))
      (s_cons (s_sto (hu_of hr) (m_bin op_fdivW o_fdv (m_sub rfl (hu_of hr) (m_var (pv 0)) m_int (fun _ _ => rfl)) (m_var (pv 1))) (m_var (pv 0)) m_int (hp := pg_sub (m_var (pv 0)) m_int set_list))
      (s_one (s_ret (m_var (pv 2))))))
      s_nil)
      (s_cons (s_sto (hu_of hr) (m_bin (a_add rfl) (o_add false) (m_sub rfl (hu_of hr) (m_var (pv 0)) m_int (fun _ _ => rfl)) m_int) (m_var (pv 0)) m_int (hp := pg_sub (m_var (pv 0)) m_int set_list))
      (s_cons (s_sto (hu_of hr) (m_bin op_mod o_mod (m_bin (a_add rfl) (o_add false) (m_bin (a_add rfl) (o_add false) (m_bin (a_mul rfl) (o_mul false) (m_sub rfl (hu_of hr) (m_var (pv 0)) m_int (fun _ _ => rfl)) m_int) (m_bin (a_mul rfl) (o_mul false) m_int (m_sub rfl (hu_of hr) (m_var (pv 0)) m_int (fun _ _ => rfl)))) m_int) m_int) (m_var (pv 0)) m_int (hp := pg_sub (m_var (pv 0)) m_int set_list))
      (s_one (s_ret (m_bin op_mod o_mod (m_bin op_mod o_mod (m_bin op_pow o_pow (m_bin op_fdivW o_fdv (m_sub rfl (hu_of hr) (m_var (pv 0)) m_int (fun _ _ => rfl)) m_int) m_int) m_int) (m_var (pv 1)))))))))
def B__law_cuts : MS :=
  (sSeq (sSet 2 (xLc false (x1 iRange1 (xCons (x1 F__law_take (xCons (xVar 0) (xCons (xC (.int 6)) xNil))) xNil)) (cNm 3) cYes (x1 F__law_take (xCons (xVar 0) (xCons (x2 (mAdd false) (x1 (mPrp "Repeats" F_Repeats_length) (xVar 1)) (xC (.int 1))) xNil))) [3]))
  (sRet (x1 (mSorted false) (xCons (x2 (mAdd false) (x2 (mAdd false) (x1 (mLst false) (xCons (xC (.int 0)) xNil)) (xVar 2)) (x1 (mLst false) (xCons (x1 (mPrp "Repeats" F_Repeats_length) (xVar 1)) xNil))) xNil))))
def F__law_cuts : List MV → M MV := fnM 2 4 B__law_cuts
theorem ok__law_cuts (T : TT w K mg) : FnM P w K mg base 3 (He.ga K "_law_cuts") F__law_cuts :=
  okM T.toTp 27 rfl rfl rfl sc__law_cuts (fun _ _ _ _ _ _ us hl => match us, hl with | [_, _], _ => rfl) (fun cdv A outer s H E hr tk po =>
      (s_cons (s_setLc (i := 2) (own := [("_law_turn", 3)]) (g := (gName 3)) rfl sc__law_cuts.nd rfl rfl (sw_true rfl rfl rfl (by decide +kernel)) (i_rng1 (T.free 44 rfl) (m_cons (m_call rfl (ok__law_take T) (hr.mono (by decide)) (T.glo 10 rfl) (T.kp 23 rfl) tk (m_cons (m_var (pv 0)) (m_cons m_int m_nil))) m_nil)) (tg_nm (by decide)) (blkOk_by (own := [("_law_turn", 3)]) (N := N__law_cuts) (sc := defScope (top 29)) (by decide +kernel)) (fun _ _ _ _ _ => (pg_name (i := 3) sc__law_cuts.nd rfl (Or.inl rfl))) (fun _ _ _ _ _ => c_yes) (fun _ _ _ _ _ => (m_call rfl (ok__law_take T) (hr.mono (by decide)) (T.glo 10 rfl) (T.kp 23 rfl) takesF (m_cons (m_var (pv 0)) (m_cons (m_bin (a_add rfl) (o_add false) (m_prpC rfl (Mi.Tp.cls_ T.toTp 53 rfl) (exq_3 T) (ok_Repeats_length T) (hr.mono (by decide)) (m_var (pv 1)) rfl) m_int) m_nil)))))
      (s_one (s_ret (m_callB (kcr_sorted rfl) (o_sorted false) (by rfl) (T.free 45 rfl) (by decide +kernel) (m_cons (m_bin (a_add rfl) (o_add false) (m_bin (a_add rfl) (o_add false) (m_lst false (m_cons m_int m_nil)) (m_var (pv 2))) (m_lst false (m_cons (m_prpC rfl (Mi.Tp.cls_ T.toTp 53 rfl) (exq_3 T) (ok_Repeats_length T) (hr.mono (by decide)) (m_var (pv 1)) rfl) m_nil))) m_nil))))))
def B__law_text : MS :=
  (sRet (xBM "str" mJoin (xC (.str "")) (xCons (xLc false (x1 iRange1 (xCons (x1 F__law_take (xCons (xVar 0) (xCons (x2 (mAdd false) (xVar 1) (xC (.int 1))) xNil))) xNil)) (cNm 2) cYes (x2 mSub2 (xC (.str "abcd")) (x1 F__law_take (xCons (xVar 0) (xCons (xC (.int 4)) xNil)))) [2]) xNil)))
def F__law_text : List MV → M MV := fnM 2 3 B__law_text
theorem ok__law_text (T : TT w K mg) : FnM P w K mg base 2 (He.ga K "_law_text") F__law_text :=
  okM T.toTp 24 rfl rfl rfl sc__law_text (fun _ _ _ _ _ _ us hl => match us, hl with | [_, _], _ => rfl) (fun cdv A outer s H E hr tk po =>
      (s_one (s_ret (m_bm rfl PySem.F.plainAttrs_str PySem.F.slot_str_join PySem.F.type_str_join mt_join o_join m_str (m_cons (m_lc (own := [("_law_turn", 2)]) (g := (gName 2)) rfl sc__law_text.nd (i_rng1 (T.free 44 rfl) (m_cons (m_call rfl (ok__law_take T) (hr.mono (by decide)) (T.glo 10 rfl) (T.kp 23 rfl) tk (m_cons (m_var (pv 0)) (m_cons (m_bin (a_add rfl) (o_add false) (m_var (pv 1)) m_int) m_nil))) m_nil)) (tg_nm (by decide)) (blkOk_by (own := [("_law_turn", 2)]) (N := N__law_text) (sc := defScope (top 26)) (by decide +kernel)) (fun _ _ _ _ _ => (pg_name (i := 2) sc__law_text.nd rfl (Or.inl rfl))) (fun _ _ _ _ _ => c_yes) (fun _ _ _ _ _ => (m_sub rfl (hu_of hr) m_str (m_call rfl (ok__law_take T) (hr.mono (by decide)) (T.glo 10 rfl) (T.kp 23 rfl) takesF (m_cons (m_var (pv 0)) (m_cons m_int m_nil))) (fun _ _ => rfl)))) m_nil)))))
def B__law_pairs : MS :=
  (sRet (xLc false (x1 iRange1 (xCons (x1 F__law_take (xCons (xVar 0) (xCons (x2 (mAdd false) (xVar 1) (xC (.int 1))) xNil))) xNil)) (cNm 3) cYes (x1 mTup (xCons (x1 F__law_text (xCons (xVar 0) (xCons (xC (.int 4)) xNil))) (xCons (x1 F__law_take (xCons (xVar 0) (xCons (x2 (mAdd false) (xVar 2) (xC (.int 1))) xNil))) xNil))) [3]))
def F__law_pairs : List MV → M MV := fnM 3 4 B__law_pairs
theorem ok__law_pairs (T : TT w K mg) : FnM P w K mg base 3 (He.ga K "_law_pairs") F__law_pairs :=
  okM T.toTp 25 rfl rfl rfl sc__law_pairs (fun _ _ _ _ _ _ us hl => match us, hl with | [_, _, _], _ => rfl) (fun cdv A outer s H E hr tk po =>
      (s_one (s_ret (m_lc (own := [("_law_turn", 3)]) (g := (gName 3)) rfl sc__law_pairs.nd (i_rng1 (T.free 44 rfl) (m_cons (m_call rfl (ok__law_take T) (hr.mono (by decide)) (T.glo 10 rfl) (T.kp 23 rfl) tk (m_cons (m_var (pv 0)) (m_cons (m_bin (a_add rfl) (o_add false) (m_var (pv 1)) m_int) m_nil))) m_nil)) (tg_nm (by decide)) (blkOk_by (own := [("_law_turn", 3)]) (N := N__law_pairs) (sc := defScope (top 27)) (by decide +kernel)) (fun _ _ _ _ _ => (pg_name (i := 3) sc__law_pairs.nd rfl (Or.inl rfl))) (fun _ _ _ _ _ => c_yes) (fun _ _ _ _ _ => (m_tup (m_cons (m_call rfl (ok__law_text T) (hr.mono (by decide)) (T.glo 11 rfl) (T.kp 24 rfl) takesF (m_cons (m_var (pv 0)) (m_cons m_int m_nil))) (m_cons (m_call rfl (ok__law_take T) (hr.mono (by decide)) (T.glo 10 rfl) (T.kp 23 rfl) takesF (m_cons (m_var (pv 0)) (m_cons (m_bin (a_add rfl) (o_add false) (m_var (pv 2)) m_int) m_nil))) m_nil))))))))
def B_Repeats_count : MS :=
  (sRet (x1 mSum (xCons (xLc false (x1 iAny (x1 (mFld ["Repeats"] "runs") (xVar 0))) (cTp [2, 3]) cYes (x2 (mMul false) (xBM "str" (mStr1 fun a b => .int (Txt.count a b)) (xVar 2) (xCons (xVar 1) xNil)) (xVar 3)) [2, 3]) xNil)))
def F_Repeats_count : List MV → M MV := fnM 2 4 B_Repeats_count
theorem ok_Repeats_count (T : TT w K mg) : FnM P w K mg base 1 (He.ma K (He.ga K "Repeats") "count") F_Repeats_count :=
  okM T.toTp 15 rfl rfl rfl sc_Repeats_count (fun _ _ _ _ _ _ us hl => match us, hl with | [_, _], _ => rfl) (fun cdv A outer s H E hr tk po =>
      (s_one (s_ret (m_callB (kcr_sum rfl rfl) o_sum (by rfl) (T.free 47 rfl) (by decide +kernel) (m_cons (m_lc (own := [("part", 2), ("times", 3)]) (g := (gTup K 2 (gNs [2, 3]))) rfl sc_Repeats_count.nd (i_any rfl (m_fld rfl (.cons (Mi.Tp.cls_ T.toTp 53 rfl) (Mi.Tp.noat_ T.toTp 58 rfl) .nil) (m_var (pv 0)) rfl)) (tg_tp (by decide) rfl) (blkOk_by (own := [("part", 2), ("times", 3)]) (N := N_Repeats_count) (sc := defScope (inClass (top 22) 7)) (by decide +kernel)) (fun _ _ _ _ _ => (kpg_tup (K := K) rfl rfl (pgs_cons (pg_name (i := 2) sc_Repeats_count.nd rfl (Or.inl rfl)) (pgs_cons (pg_name (i := 3) sc_Repeats_count.nd rfl (Or.inl rfl)) pgs_nil)))) (fun _ _ _ _ _ => c_yes) (fun _ _ _ _ _ => (m_bin (a_mul rfl) (o_mul false) (m_bm rfl PySem.F.plainAttrs_str PySem.F.slot_str_count PySem.F.type_str_count mt_count o_str1i (m_var (pv 2)) (m_cons (m_var (pv 1)) m_nil)) (m_var (pv 3))))) m_nil)))))
def B__law_parts_right : MS :=
  (sSeq (sSet 2 (xLc false (x1 iZip (xCons (xVar 1) (xCons (xSl false (xVar 1) (xPart (xC (.int 1))) xNoP) xNil))) (cTp [6, 7]) cYes (xMeth "Repeats" "part" F_Repeats_part (xVar 0) (xCons (xVar 6) (xCons (xVar 7) xNil))) [6, 7]))
  (sSeq (sSet 3 (x1 (mMake "Repeats" F_Repeats___init__) (xCons (x1 (mLst false) xNil) xNil)))
  (sSeq (sFor (x1 iAny (xVar 2)) (gNm 4)
  (sSet 3 (x2 (mOwn2 "Repeats" (bIns "Repeats") F_Repeats___add__) (xVar 3) (xVar 4))))
  (sSeq (sIf (tOrM (tsb (x2 (mEqA "Repeats" ["Repeats"] true F_Repeats___eq__) (xVar 3) (xVar 0))) (tsb (x2 mNeS (x1 mSum (xCons (xLc false (x1 iAny (xVar 2)) (cNm 4) cYes (x1 (mPrp "Repeats" F_Repeats_length) (xVar 4)) [4]) xNil)) (x1 (mPrp "Repeats" F_Repeats_length) (xVar 0)))))
  (sRet (xC (.bl false)))
  sNop)
  (sSeq (sFor (x1 iAny (xC (.str "abcd"))) (gNm 5)
  (sIf (tsb (x2 mNeS (x1 mSum (xCons (xLc false (x1 iAny (xVar 2)) (cNm 4) cYes (xMeth "Repeats" "count" F_Repeats_count (xVar 4) (xCons (xVar 5) xNil)) [4]) xNil)) (xMeth "Repeats" "count" F_Repeats_count (xVar 0) (xCons (xVar 5) xNil))))
  (sRet (xC (.bl false)))
  sNop))
  (sRet (x2 mEqS (xLc false (x1 iAny (xVar 2)) (cNm 4) cYes (x1 (mPrp "Repeats" F_Repeats_length) (xVar 4)) [4]) (xLc false (x1 iZip (xCons (xVar 1) (xCons (xSl false (xVar 1) (xPart (xC (.int 1))) xNoP) xNil))) (cTp [6, 7]) cYes (x2 mSub (xVar 7) (xVar 6)) [6, 7]))))))))
def F__law_parts_right : List MV → M MV := fnM 2 8 B__law_parts_right
theorem ok__law_parts_right (T : TT w K mg) : FnM P w K mg base 7 (He.ga K "_law_parts_right") F__law_parts_right :=
  okM T.toTp 28 rfl rfl rfl sc__law_parts_right (fun _ _ _ _ _ _ us hl => match us, hl with | [_, _], _ => rfl) (fun cdv A outer s H E hr tk po =>
      (s_cons (s_setLc (i := 2) (own := [("_law_low", 6), ("_law_high", 7)]) (g := (gTup K 2 (gNs [6, 7]))) rfl sc__law_parts_right.nd rfl rfl (sw_true rfl rfl rfl (by decide +kernel)) (i_zip rfl (T.free 49 rfl) (m_cons (m_var (pv 1)) (m_cons (m_slice false rfl (m_var (pv 1)) (m_po m_int) m_poN) m_nil))) (tg_tp (by decide) rfl) (blkOk_by (own := [("_law_low", 6), ("_law_high", 7)]) (N := N__law_parts_right) (sc := defScope (top 30)) (by decide +kernel)) (fun _ _ _ _ _ => (kpg_tup (K := K) rfl rfl (pgs_cons (pg_name (i := 6) sc__law_parts_right.nd rfl (Or.inl rfl)) (pgs_cons (pg_name (i := 7) sc__law_parts_right.nd rfl (Or.inl rfl)) pgs_nil)))) (fun _ _ _ _ _ => c_yes) (fun _ _ _ _ _ => (m_meth rfl (m_var (pv 0)) (Mi.Tp.cls_ T.toTp 53 rfl) (Mi.Tp.meth_ T.toTp 55 rfl) (ok_Repeats_part T) (hr.mono (by decide)) takesF (m_cons (m_var (pv 6)) (m_cons (m_var (pv 7)) m_nil)))))
      (s_cons (s_set (i := 3) sc__law_parts_right.nd rfl (Or.inl rfl) (m_make rfl (Mi.Tp.mkr_ T.toTp 54 rfl) (ok_Repeats___init__ T) (hr.mono (by decide)) (T.glo 22 rfl) tk (m_cons (m_lst false m_nil) m_nil)))
      (s_cons (s_for po rfl (i_any rfl (m_var (pv 2))) (g_name (i := 4) sc__law_parts_right.nd rfl (Or.inl rfl))
      (s_one (s_set (i := 3) sc__law_parts_right.nd rfl (Or.inl rfl) (m_bin (op_ownAdd rfl (exq_5 T) (Mi.Tp.meth_ T.toTp 59 rfl) (ok_Repeats___add__ T) (hr.mono (by decide))) (o_own2 pIns_ok) (m_var (pv 3)) (m_var (pv 4))))))
      (s_cons (s_if (PW.pt (tOr_ (t_cmp (op_neA rfl (exq_7 T) (Mi.Tp.meth_ T.toTp 60 rfl) (ok_Repeats___eq__ T) (hr.mono (by decide))) (o_eqA (exq_6 T)) (m_var (pv 3)) (m_var (pv 0)) (nomark _)) (pw_or1 (t_cmp (a_neS rfl hr.units) o_neS (m_callB (kcr_sum rfl rfl) o_sum (by rfl) (T.free 47 rfl) (by decide +kernel) (m_cons (m_lc (own := [("_law_part", 4)]) (g := (gName 4)) rfl sc__law_parts_right.nd (i_any rfl (m_var (pv 2))) (tg_nm (by decide)) (blkOk_by (own := [("_law_part", 4)]) (N := N__law_parts_right) (sc := defScope (top 30)) (by decide +kernel)) (fun _ _ _ _ _ => (pg_name (i := 4) sc__law_parts_right.nd rfl (Or.inl rfl))) (fun _ _ _ _ _ => c_yes) (fun _ _ _ _ _ => (m_prpC rfl (Mi.Tp.cls_ T.toTp 53 rfl) (exq_3 T) (ok_Repeats_length T) (hr.mono (by decide)) (m_var (pv 4)) rfl))) m_nil)) (m_prpC rfl (Mi.Tp.cls_ T.toTp 53 rfl) (exq_3 T) (ok_Repeats_length T) (hr.mono (by decide)) (m_var (pv 0)) rfl) (nomark _)))))
      (s_one (s_ret m_bl))
      s_nil)
      (s_cons (s_for po rfl (i_any rfl m_str) (g_name (i := 5) sc__law_parts_right.nd rfl (Or.inr rfl))
      (s_one (s_if (t_cmp (a_neS rfl hr.units) o_neS (m_callB (kcr_sum rfl rfl) o_sum (by rfl) (T.free 47 rfl) (by decide +kernel) (m_cons (m_lc (own := [("_law_part", 4)]) (g := (gName 4)) rfl sc__law_parts_right.nd (i_any rfl (m_var (pv 2))) (tg_nm (by decide)) (blkOk_by (own := [("_law_part", 4)]) (N := N__law_parts_right) (sc := defScope (top 30)) (by decide +kernel)) (fun _ _ _ _ _ => (pg_name (i := 4) sc__law_parts_right.nd rfl (Or.inl rfl))) (fun _ _ _ _ _ => c_yes) (fun _ _ _ _ _ => (m_meth rfl (m_var (pv 4)) (Mi.Tp.cls_ T.toTp 53 rfl) (Mi.Tp.meth_ T.toTp 57 rfl) (ok_Repeats_count T) (hr.mono (by decide)) takesF (m_cons (m_var (pv 5)) m_nil)))) m_nil)) (m_meth rfl (m_var (pv 0)) (Mi.Tp.cls_ T.toTp 53 rfl) (Mi.Tp.meth_ T.toTp 57 rfl) (ok_Repeats_count T) (hr.mono (by decide)) tk (m_cons (m_var (pv 5)) m_nil)) (nomark _))
      (s_one (s_ret m_bl))
      s_nil)))
      (s_one (s_ret (m_cmp (a_eqS rfl hr.units) o_eqS (m_lc (own := [("_law_part", 4)]) (g := (gName 4)) rfl sc__law_parts_right.nd (i_any rfl (m_var (pv 2))) (tg_nm (by decide)) (blkOk_by (own := [("_law_part", 4)]) (N := N__law_parts_right) (sc := defScope (top 30)) (by decide +kernel)) (fun _ _ _ _ _ => (pg_name (i := 4) sc__law_parts_right.nd rfl (Or.inl rfl))) (fun _ _ _ _ _ => c_yes) (fun _ _ _ _ _ => (m_prpC rfl (Mi.Tp.cls_ T.toTp 53 rfl) (exq_3 T) (ok_Repeats_length T) (hr.mono (by decide)) (m_var (pv 4)) rfl))) (m_lc (own := [("_law_low", 6), ("_law_high", 7)]) (g := (gTup K 2 (gNs [6, 7]))) rfl sc__law_parts_right.nd (i_zip rfl (T.free 49 rfl) (m_cons (m_var (pv 1)) (m_cons (m_slice false rfl (m_var (pv 1)) (m_po m_int) m_poN) m_nil))) (tg_tp (by decide) rfl) (blkOk_by (own := [("_law_low", 6), ("_law_high", 7)]) (N := N__law_parts_right) (sc := defScope (top 30)) (by decide +kernel)) (fun _ _ _ _ _ => (kpg_tup (K := K) rfl rfl (pgs_cons (pg_name (i := 6) sc__law_parts_right.nd rfl (Or.inl rfl)) (pgs_cons (pg_name (i := 7) sc__law_parts_right.nd rfl (Or.inl rfl)) pgs_nil)))) (fun _ _ _ _ _ => c_yes) (fun _ _ _ _ _ => (m_bin op_sub o_sub (m_var (pv 7)) (m_var (pv 6))))) (nomark _))))))))))
def B_law : MS :=
  (sSeq (sFor (x1 iRange1 (xCons (x2 (mAdd false) (xC (.int 1)) (x1 mMin (xCons (xC (.int 3)) (xCons (x1 mLen (xCons (xVar 0) xNil)) xNil)))) xNil)) (gNm 1)
  (sSeq (sSet 2 (x1 F__law_bag (xCons (xVar 0) (xCons (xVar 1) xNil))))
  (sSeq (sSet 3 (x1 (mMake "Repeats" F_Repeats___init__) (xCons (x1 F__law_pairs (xCons (xVar 2) (xCons (xC (.int 8)) (xCons (x2 mSub2 (x1 (mLst false) (xCons (xC (.int 4)) (xCons (x2 mPow (xC (.int 10)) (xC (.int 20))) (xCons (x2 mPow (xC (.int 10)) (xC (.int 60))) xNil)))) (x1 F__law_take (xCons (xVar 2) (xCons (xC (.int 3)) xNil)))) xNil)))) xNil)))
  (sSeq (sSet 4 (x1 F__law_cuts (xCons (xVar 2) (xCons (xVar 3) xNil))))
  (sSeq (sIf (tNoM (tst (x1 F__law_parts_right (xCons (xVar 3) (xCons (xVar 4) xNil)))))
  (sRet (xC (.bl false)))
  sNop)
  (sFor (x1 iZip (xCons (xVar 4) (xCons (xSl false (xVar 4) (xPart (xC (.int 1))) xNoP) xNil))) (gTp 2 (gCn (gNm 5) (gCn (gNm 6) gNl)))
  (sSeq (sSet 7 (xMeth "Repeats" "part" F_Repeats_part (xVar 3) (xCons (xVar 5) (xCons (xVar 6) xNil))))
  (sSeq (sIf (tsb (x2 mLt (xVar 5) (xVar 6)))
  (sSeq (sSet 8 (x1 F__law_take (xCons (xVar 2) (xCons (x2 mSub (xVar 6) (xVar 5)) xNil))))
  (sSeq (sIf (tOrM (tsb (x2 mNeS (x2 (mOwn2 "Repeats" bInt F_Repeats___getitem__) (xVar 7) (xVar 8)) (x2 (mOwn2 "Repeats" bInt F_Repeats___getitem__) (xVar 3) (x2 (mAdd false) (xVar 5) (xVar 8))))) (tOrM (tsb (x2 mNeS (x2 (mOwn2 "Repeats" bInt F_Repeats___getitem__) (xVar 7) (xC (.int 0))) (x2 (mOwn2 "Repeats" bInt F_Repeats___getitem__) (xVar 3) (xVar 5)))) (tsb (x2 mNeS (x2 (mOwn2 "Repeats" bInt F_Repeats___getitem__) (xVar 7) (x2 mSub (x2 mSub (xVar 6) (xVar 5)) (xC (.int 1)))) (x2 (mOwn2 "Repeats" bInt F_Repeats___getitem__) (xVar 3) (x2 mSub (xVar 6) (xC (.int 1))))))))
  (sRet (xC (.bl false)))
  sNop)
  (sSeq (sIf (tsb (x2 (mEqA "Repeats" ["Repeats"] true F_Repeats___eq__) (xMeth "Repeats" "part" F_Repeats_part (xVar 7) (xCons (xVar 8) (xCons (x1 (mPrp "Repeats" F_Repeats_length) (xVar 7)) xNil))) (xMeth "Repeats" "part" F_Repeats_part (xVar 3) (xCons (x2 (mAdd false) (xVar 5) (xVar 8)) (xCons (xVar 6) xNil)))))
  (sRet (xC (.bl false)))
  sNop)
  (sIf (tsb (x2 (mEqA "Repeats" ["Repeats"] true F_Repeats___eq__) (x2 (mOwn2 "Repeats" (bIns "Repeats") F_Repeats___add__) (xMeth "Repeats" "part" F_Repeats_part (xVar 7) (xCons (xC (.int 0)) (xCons (xVar 8) xNil))) (xMeth "Repeats" "part" F_Repeats_part (xVar 7) (xCons (xVar 8) (xCons (x1 (mPrp "Repeats" F_Repeats_length) (xVar 7)) xNil)))) (xVar 7)))
  (sRet (xC (.bl false)))
  sNop))))
  sNop)
  (sIf (tsb (x2 mNeS (x1 (mOwn1 "Repeats" bBl F_Repeats___bool__) (xCons (xVar 7) xNil)) (x2 mLt (xVar 5) (xVar 6))))
  (sRet (xC (.bl false)))
  sNop)))))))))
  (sRet (xC (.bl true))))
def F_law : List MV → M MV := fnM 1 9 B_law
theorem ok_law (T : TT w K mg) : FnG P w K mg base (L2.CX P w) 8 (He.ga K "law") (spM K F_law) :=
  okMG T.toTp 29 rfl rfl rfl sc_law (fun _ _ _ _ _ _ us hl => match us, hl with | [_], _ => rfl) (fun cdv A outer s H E hr tk po =>
      (s_cons (s_for po rfl (i_rng1 (T.free 44 rfl) (m_cons (m_bin (a_add rfl) (o_add false) m_int (m_callB (call_min2 rfl) o_min (by rfl) (T.free 42 rfl) (by decide +kernel) (m_cons m_int (m_cons (m_callB (kcr_len rfl) o_len (by rfl) (T.free 39 rfl) (by decide +kernel) (m_cons (m_var (pv 0)) m_nil)) m_nil)))) m_nil)) (g_name (i := 1) sc_law.nd rfl (Or.inl rfl))
      (s_cons (s_set (i := 2) sc_law.nd rfl (Or.inl rfl) (m_call rfl (ok__law_bag T) (hr.r.mono (by decide)) (T.glo 9 rfl) (T.kp 22 rfl) tk (m_cons (m_var (pv 0)) (m_cons (m_var (pv 1)) m_nil))))
      (s_cons (s_set (i := 3) sc_law.nd rfl (Or.inl rfl) (m_make rfl (Mi.Tp.mkr_ T.toTp 54 rfl) (ok_Repeats___init__ T) (hr.r.mono (by decide)) (T.glo 22 rfl) tk (m_cons (m_call rfl (ok__law_pairs T) (hr.r.mono (by decide)) (T.glo 12 rfl) (T.kp 25 rfl) tk (m_cons (m_var (pv 2)) (m_cons m_int (m_cons (m_sub rfl (hu_of hr.r) (m_lst false (m_cons m_int (m_cons (m_bin op_pow o_pow m_int m_int) (m_cons (m_bin op_pow o_pow m_int m_int) m_nil)))) (m_call rfl (ok__law_take T) (hr.r.mono (by decide)) (T.glo 10 rfl) (T.kp 23 rfl) tk (m_cons (m_var (pv 2)) (m_cons m_int m_nil))) (fun _ _ => rfl)) m_nil)))) m_nil)))
      (s_cons (s_set (i := 4) sc_law.nd rfl (Or.inl rfl) (m_call rfl (ok__law_cuts T) (hr.r.mono (by decide)) (T.glo 14 rfl) (T.kp 27 rfl) tk (m_cons (m_var (pv 2)) (m_cons (m_var (pv 3)) m_nil))))
      (s_cons (s_if (t_not (t_tru rfl (m_call rfl (ok__law_parts_right T) (hr.r.mono (by decide)) (T.glo 15 rfl) (T.kp 28 rfl) tk (m_cons (m_var (pv 3)) (m_cons (m_var (pv 4)) m_nil))) (by intro _; rfl)))
      (s_one (s_ret m_bl))
      s_nil)
      (s_one (s_for po rfl (i_zip rfl (T.free 49 rfl) (m_cons (m_var (pv 4)) (m_cons (m_slice false rfl (m_var (pv 4)) (m_po m_int) m_poN) m_nil))) (g_tup rfl rfl (g_cons (g_name (i := 5) sc_law.nd rfl (Or.inl rfl)) (g_cons (g_name (i := 6) sc_law.nd rfl (Or.inl rfl)) g_nil)))
      (s_cons (s_set (i := 7) sc_law.nd rfl (Or.inl rfl) (m_meth rfl (m_var (pv 3)) (Mi.Tp.cls_ T.toTp 53 rfl) (Mi.Tp.meth_ T.toTp 55 rfl) (ok_Repeats_part T) (hr.r.mono (by decide)) tk (m_cons (m_var (pv 5)) (m_cons (m_var (pv 6)) m_nil))))
      (s_cons (s_if (t_cmp op_lt o_ord (m_var (pv 5)) (m_var (pv 6)) (nomark _))
      (s_cons (s_set (i := 8) sc_law.nd rfl (Or.inl rfl) (m_call rfl (ok__law_take T) (hr.r.mono (by decide)) (T.glo 10 rfl) (T.kp 23 rfl) tk (m_cons (m_var (pv 2)) (m_cons (m_bin op_sub o_sub (m_var (pv 6)) (m_var (pv 5))) m_nil))))
      (s_cons (s_if (PW.pt (tOr_ (t_cmp (a_neS rfl hr.r.units) o_neS (m_subO rfl (exq_8 T) (Mi.Tp.meth_ T.toTp 61 rfl) (ok_Repeats___getitem__ T) (hr.r.mono (by decide)) pInt_ok (m_var (pv 7)) (m_var (pv 8))) (m_subO rfl (exq_8 T) (Mi.Tp.meth_ T.toTp 61 rfl) (ok_Repeats___getitem__ T) (hr.r.mono (by decide)) pInt_ok (m_var (pv 3)) (m_bin (a_add rfl) (o_add false) (m_var (pv 5)) (m_var (pv 8)))) (nomark _)) (tOr_ (t_cmp (a_neS rfl hr.r.units) o_neS (m_subO rfl (exq_8 T) (Mi.Tp.meth_ T.toTp 61 rfl) (ok_Repeats___getitem__ T) (hr.r.mono (by decide)) pInt_ok (m_var (pv 7)) m_int) (m_subO rfl (exq_8 T) (Mi.Tp.meth_ T.toTp 61 rfl) (ok_Repeats___getitem__ T) (hr.r.mono (by decide)) pInt_ok (m_var (pv 3)) (m_var (pv 5))) (nomark _)) (pw_or1 (t_cmp (a_neS rfl hr.r.units) o_neS (m_subO rfl (exq_8 T) (Mi.Tp.meth_ T.toTp 61 rfl) (ok_Repeats___getitem__ T) (hr.r.mono (by decide)) pInt_ok (m_var (pv 7)) (m_bin op_sub o_sub (m_bin op_sub o_sub (m_var (pv 6)) (m_var (pv 5))) m_int)) (m_subO rfl (exq_8 T) (Mi.Tp.meth_ T.toTp 61 rfl) (ok_Repeats___getitem__ T) (hr.r.mono (by decide)) pInt_ok (m_var (pv 3)) (m_bin op_sub o_sub (m_var (pv 6)) m_int)) (nomark _))))))
      (s_one (s_ret m_bl))
      s_nil)
      (s_cons (s_if (t_cmp (op_neA rfl (exq_7 T) (Mi.Tp.meth_ T.toTp 60 rfl) (ok_Repeats___eq__ T) (hr.r.mono (by decide))) (o_eqA (exq_6 T)) (m_meth rfl (m_var (pv 7)) (Mi.Tp.cls_ T.toTp 53 rfl) (Mi.Tp.meth_ T.toTp 55 rfl) (ok_Repeats_part T) (hr.r.mono (by decide)) tk (m_cons (m_var (pv 8)) (m_cons (m_prpC rfl (Mi.Tp.cls_ T.toTp 53 rfl) (exq_3 T) (ok_Repeats_length T) (hr.r.mono (by decide)) (m_var (pv 7)) rfl) m_nil))) (m_meth rfl (m_var (pv 3)) (Mi.Tp.cls_ T.toTp 53 rfl) (Mi.Tp.meth_ T.toTp 55 rfl) (ok_Repeats_part T) (hr.r.mono (by decide)) tk (m_cons (m_bin (a_add rfl) (o_add false) (m_var (pv 5)) (m_var (pv 8))) (m_cons (m_var (pv 6)) m_nil))) (nomark _))
      (s_one (s_ret m_bl))
      s_nil)
      (s_one (s_if (t_cmp (op_neA rfl (exq_7 T) (Mi.Tp.meth_ T.toTp 60 rfl) (ok_Repeats___eq__ T) (hr.r.mono (by decide))) (o_eqA (exq_6 T)) (m_bin (op_ownAdd rfl (exq_5 T) (Mi.Tp.meth_ T.toTp 59 rfl) (ok_Repeats___add__ T) (hr.r.mono (by decide))) (o_own2 pIns_ok) (m_meth rfl (m_var (pv 7)) (Mi.Tp.cls_ T.toTp 53 rfl) (Mi.Tp.meth_ T.toTp 55 rfl) (ok_Repeats_part T) (hr.r.mono (by decide)) tk (m_cons m_int (m_cons (m_var (pv 8)) m_nil))) (m_meth rfl (m_var (pv 7)) (Mi.Tp.cls_ T.toTp 53 rfl) (Mi.Tp.meth_ T.toTp 55 rfl) (ok_Repeats_part T) (hr.r.mono (by decide)) tk (m_cons (m_var (pv 8)) (m_cons (m_prpC rfl (Mi.Tp.cls_ T.toTp 53 rfl) (exq_3 T) (ok_Repeats_length T) (hr.r.mono (by decide)) (m_var (pv 7)) rfl) m_nil)))) (m_var (pv 7)) (nomark _))
      (s_one (s_ret m_bl))
      s_nil)))))
      s_nil)
      (s_one (s_if (t_cmp (a_neS rfl hr.r.units) o_neS (m_callTy (call_boolO rfl (Mi.Tp.meth_ T.toTp 62 rfl) (ok_Repeats___bool__ T) (hr.r.mono (by decide))) (o_own1 pBl_ok) (by rfl) (T.free 34 rfl) (by decide +kernel) (m_cons (m_var (pv 7)) m_nil)) (m_cmp op_lt o_ord (m_var (pv 5)) (m_var (pv 6)) (nomark _)) (nomark _))
      (s_one (s_ret m_bl))
      s_nil)))))))))))
      (s_one (s_ret m_bl))))
end
end Lw
namespace Lw
open PySem PySem.Spec PyProof.Rows L2 Ob Mi StX
/-! ### the operations on plain values -/
section
variable {h : Mh} {Q : MV → Mh → Prop} {E : Exn → Mh → Prop}
@[simp] theorem eqI {i j : Int} : Wm (mEqS (.int i) (.int j) h) Q E = Q (.bl (decide (i = j))) h := by
  show Q (.bl (PyData.eqv (.int i) (.int j))) h = _
  rw [show PyData.eqv (.int i) (.int j) = (i == j) from rfl]
  rfl
@[simp] theorem neI {i j : Int} : Wm (mNeS (.int i) (.int j) h) Q E = Q (.bl (decide (i ≠ j))) h := by
  show Q (.bl (!PyData.eqv (.int i) (.int j))) h = _
  rw [show PyData.eqv (.int i) (.int j) = (i == j) from rfl]
  congr 2
  by_cases c : i = j <;> simp [c]
@[simp] theorem eqSS {a b : Str} : Wm (mEqS (.str a) (.str b) h) Q E = Q (.bl (decide (a = b))) h := rfl
@[simp] theorem neSS {a b : Str} : Wm (mNeS (.str a) (.str b) h) Q E = Q (.bl (decide (a ≠ b))) h := by
  show Q (.bl (!decide (a = b))) h = _
  congr 2
  by_cases c : a = b <;> simp [c]
theorem eqS {a b : Str} (ha : PyData.strOk a = true) (hb : PyData.strOk b = true) : Wm (mEqS (.str a) (.str b) h) Q E = Q (.bl (decide (a = b))) h := eqSS
theorem neS {a b : Str} (ha : PyData.strOk a = true) (hb : PyData.strOk b = true) : Wm (mNeS (.str a) (.str b) h) Q E = Q (.bl (decide (a ≠ b))) h := neSS
@[simp] theorem ltI {i j : Int} : Wm (mLt (.int i) (.int j) h) Q E = Q (.bl (decide (i < j))) h := rfl
@[simp] theorem leI {i j : Int} : Wm (mLe (.int i) (.int j) h) Q E = Q (.bl (decide (i ≤ j))) h := rfl
@[simp] theorem gtI {i j : Int} : Wm (mGt (.int i) (.int j) h) Q E = Q (.bl (decide (i > j))) h := rfl
@[simp] theorem geI {i j : Int} : Wm (mGe (.int i) (.int j) h) Q E = Q (.bl (decide (i ≥ j))) h := rfl
@[simp] theorem addI {b : Bool} {i j : Int} : Wm (mAdd b (.int i) (.int j) h) Q E = Q (.int (i + j)) h := rfl
@[simp] theorem subI {i j : Int} : Wm (mSub (.int i) (.int j) h) Q E = Q (.int (i - j)) h := rfl
theorem lenS {z : Str} (hz : z.cps.size ≤ sizeLine) : Wm (mLen [.str z] h) Q E = Q (.int z.cps.size) h := by
  have e : mLen [.str z] h = some (.ok (.int z.cps.size) h) := if_pos (show z.length ≤ sizeLine from hz)
  rw [e]
  rfl
theorem subS {z : Str} {n : Nat} (hz : z.cps.size ≤ sizeLine) (hn : n < z.cps.size) : Wm (mSub2 (.str z) (.int n) h) Q E = Q (.str ⟨#[z.cps[n]]⟩) h := by
  have e : mIx (.str z) (.int n) h = some (.ok (.str ⟨#[z.cps[n]]⟩) h) := by
    simp [mIx, show z.length ≤ sizeLine from hz, atI, ixN, hn]
  unfold mSub2
  rw [e]
  rfl
@[simp] theorem iterS {z : Str} {Q : MIt → Mh → Prop} : Wm (iAny (.str z) h) Q E = Q (itC (z.cps.toList.map fun c => .str ⟨#[c]⟩)) h := rfl
@[simp] theorem isTyS {z : Str} : isTy "str" (.str z) h = true := rfl
end

end Lw
namespace Lw
open PySem PySem.Spec PyProof.Rows L2 Ob Mi StX
/-! ### texts by repetition: plain laws -/
def rep (n : Nat) (p : List Nat) : List Nat := (List.replicate n p).flatten
theorem rep_zero (p : List Nat) : rep 0 p = [] := rfl
theorem rep_succ (n : Nat) (p : List Nat) : rep (n + 1) p = p ++ rep n p := by simp [rep, List.replicate_succ]
theorem rep_nil : ∀ n, rep n [] = []
  | 0 => rfl
  | n + 1 => by rw [rep_succ, rep_nil n]; rfl
theorem rep_one (p : List Nat) : rep 1 p = p := by simp [rep]
theorem rep_len (p : List Nat) : ∀ n, (rep n p).length = n * p.length
  | 0 => by simp [rep]
  | n + 1 => by rw [rep_succ, List.length_append, rep_len p n, Nat.succ_mul, Nat.add_comm]
theorem rep_add (p : List Nat) (b : Nat) : ∀ a, rep (a + b) p = rep a p ++ rep b p
  | 0 => by simp [rep_zero]
  | a + 1 => by rw [Nat.succ_add, rep_succ, rep_succ, rep_add p b a, List.append_assoc]
theorem rep_mul (p : List Nat) (b : Nat) : ∀ a, rep (a * b) p = rep a (rep b p)
  | 0 => by simp [rep_zero]
  | a + 1 => by rw [Nat.succ_mul, Nat.add_comm, rep_add, rep_succ, rep_mul p b a]
theorem rep_get {p : List Nat} : ∀ {n i : Nat}, i < n * p.length → (rep n p)[i]? = p[i % p.length]?
  | 0, i, h => by omega
  | n + 1, i, h => by
    rw [rep_succ]
    by_cases hi : i < p.length
    · rw [List.getElem?_append_left hi, Nat.mod_eq_of_lt hi]
    · rw [List.getElem?_append_right (by omega), rep_get (by rw [Nat.succ_mul] at h; omega), ← Nat.mod_eq_sub_mod (by omega)]
theorem rep_mem {p : List Nat} {c : Nat} : ∀ {n : Nat}, c ∈ rep n p → c ∈ p
  | 0, h => by cases h
  | n + 1, h => by
    rw [rep_succ] at h
    rcases List.mem_append.mp h with h | h
    · exact h
    · exact rep_mem h
theorem rep_count {p : List Nat} {c : Nat} : ∀ n : Nat, (rep n p).count c = n * p.count c
  | 0 => by simp [rep_zero]
  | n + 1 => by rw [rep_succ, List.count_append, rep_count n, Nat.succ_mul, Nat.add_comm]
def txt (rs : List (List Nat × Nat)) : List Nat := (rs.map fun q => rep q.2 q.1).flatten
theorem txt_nil : txt [] = [] := rfl
theorem txt_cons (q : List Nat × Nat) (rs : List (List Nat × Nat)) : txt (q :: rs) = rep q.2 q.1 ++ txt rs := by simp [txt]
theorem txt_app (a b : List (List Nat × Nat)) : txt (a ++ b) = txt a ++ txt b := by simp [txt]
theorem txt_one (q : List Nat × Nat) : txt [q] = rep q.2 q.1 := by simp [txt]
/-- the shortest root -/
def rot (x : List Nat) (k : Nat) : List Nat := ((x ++ x).drop k).take x.length
theorem rot_get {x : List Nat} {k i : Nat} (hk : k ≤ x.length) (hi : i < x.length) : (rot x k)[i]? = x[(i + k) % x.length]? := by
  unfold rot
  rw [List.getElem?_take, if_pos hi, List.getElem?_drop]
  by_cases h : k + i < x.length
  · rw [List.getElem?_append_left h, Nat.mod_eq_of_lt (by omega), Nat.add_comm]
  · rw [List.getElem?_append_right (by omega), show i + k = k + i by omega, Nat.mod_eq_sub_mod (by omega), Nat.mod_eq_of_lt (by omega)]
theorem rot_len {x : List Nat} {k : Nat} (hk : k ≤ x.length) : (rot x k).length = x.length := by
  unfold rot
  rw [List.length_take, List.length_drop, List.length_append]
  omega
theorem rot_iff {x : List Nat} {k : Nat} (hk : k ≤ x.length) : rot x k = x ↔ ∀ i, i < x.length → x[(i + k) % x.length]? = x[i]? := by
  constructor
  · intro e i hi
    rw [← rot_get hk hi, e]
  · intro e
    refine List.ext_getElem? fun i => ?_
    by_cases hi : i < x.length
    · rw [rot_get hk hi, e i hi]
    · rw [List.getElem?_eq_none (by rw [rot_len hk]; omega), List.getElem?_eq_none (by omega)]
theorem root_law {x : List Nat} {d : Nat} (hd : 1 ≤ d) (hn : d ≤ x.length) (hp : rot x d = x) (hm : ∀ k, 1 ≤ k → k < d → rot x k ≠ x) : x.length % d = 0 ∧ x = rep (x.length / d) (x.take d) := by
  have hx : 0 < x.length := by omega
  have p1 : ∀ i, x[(i + d) % x.length]? = x[i % x.length]? := fun i => by
    have := (rot_iff hn).mp hp (i % x.length) (Nat.mod_lt _ hx)
    rw [Nat.mod_add_mod] at this
    exact this
  have p2 : ∀ m i, x[(i + d * m) % x.length]? = x[i % x.length]? := by
    intro m
    induction m with
    | zero => intro i; rw [Nat.mul_zero, Nat.add_zero]
    | succ m ih =>
      intro i
      rw [Nat.mul_succ, ← Nat.add_assoc, p1, ih]
  have hr : x.length % d = 0 := by
    by_cases h0 : x.length % d = 0
    · exact h0
    · have lt := Nat.mod_lt x.length (show 0 < d by omega)
      exfalso
      refine hm (x.length % d) (by omega) lt ((rot_iff (by omega)).mpr fun i hi => ?_)
      have e := p2 (x.length / d) (i + x.length % d)
      have e2 : i + x.length % d + d * (x.length / d) = i + x.length := by
        have := Nat.mod_add_div x.length d
        omega
      rw [e2, Nat.add_mod_right] at e
      rw [← e, Nat.mod_eq_of_lt hi]
  refine ⟨hr, ?_⟩
  have hl : x.length / d * d = x.length := Nat.div_mul_cancel (Nat.dvd_of_mod_eq_zero hr)
  have tl : (x.take d).length = d := by rw [List.length_take]; omega
  refine List.ext_getElem? fun i => ?_
  by_cases hi : i < x.length
  · rw [rep_get (by rw [tl, hl]; exact hi), tl, List.getElem?_take, if_pos (Nat.mod_lt _ (by omega))]
    have e := p2 (i / d) (i % d)
    rw [Nat.mod_add_div, Nat.mod_eq_of_lt hi, Nat.mod_eq_of_lt (Nat.lt_of_lt_of_le (Nat.mod_lt _ (by omega)) hn)] at e
    exact e
  · rw [List.getElem?_eq_none (by omega), List.getElem?_eq_none (by rw [rep_len, tl, hl]; omega)]
theorem sub_at {z : Str} {i : Nat} : StrLaws.At (z ++ z) z (z ++ z).length i ↔ i ≤ z.cps.toList.length ∧ rot z.cps.toList i = z.cps.toList := by
  have hl : (z ++ z).length = z.cps.size + z.cps.size := by
    show (z.cps ++ z.cps).size = _
    simp
  have e : (z ++ z).cps.extract i (i + z.length) = z.cps ↔ rot z.cps.toList i = z.cps.toList := by
    have t : ((z ++ z).cps.extract i (i + z.length)).toList = rot z.cps.toList i := by
      show ((z.cps ++ z.cps).extract i (i + z.cps.size)).toList = _
      rw [Array.toList_extract, Array.toList_append]
      simp [rot, List.extract]
    constructor
    · intro q; rw [← t, q]
    · intro q; exact Array.toList_inj.mp (t.trans q)
  unfold StrLaws.At Builtin.Str.subAt
  rw [beq_iff_eq, e, hl]
  show i + z.cps.size ≤ _ ∧ _ ↔ _
  simp only [Array.length_toList]
  constructor
  · rintro ⟨a, b⟩; exact ⟨by omega, b⟩
  · rintro ⟨a, b⟩; exact ⟨by omega, b⟩
theorem find_root {z : Str} (hz : 0 < z.cps.size) : ∃ d : Nat, Txt.find3 (z ++ z) z 1 = (d : Int) ∧ 1 ≤ d ∧ d ≤ z.cps.size ∧ z.cps.size % d = 0 ∧ z.cps.toList = rep (z.cps.size / d) (z.cps.toList.take d) := by
  have hl : (z ++ z).length = z.cps.size + z.cps.size := by
    show (z.cps ++ z.cps).size = _
    simp
  have fi : PySem.fromIndex (z ++ z).length 1 = 1 := by
    rw [hl]
    simp [PySem.fromIndex]
    omega
  have full : rot z.cps.toList z.cps.toList.length = z.cps.toList := by
    unfold rot
    rw [List.drop_left', List.take_length] <;> rfl
  unfold Txt.find3
  rcases StrLaws.occ_head_from (z ++ z) z (PySem.fromIndex (z ++ z).length 1) 1 (Nat.le_refl 1) with ⟨h0, hn⟩ | ⟨d, r, h0, hlo, hk, hn⟩
  · exfalso
    rw [fi] at hn
    exact hn z.cps.size hz (sub_at.mpr ⟨by simp, by simpa using full⟩)
  · rw [h0]
    rw [fi] at hlo hn
    obtain ⟨a, b⟩ := sub_at.mp hk
    have a' : d ≤ z.cps.size := by simpa using a
    obtain ⟨c1, c2⟩ := root_law hlo a b fun k h1 h2 e => hn k h1 h2 (sub_at.mpr ⟨by omega, e⟩)
    refine ⟨d, rfl, hlo, a', by simpa using c1, ?_⟩
    simpa using c2

end Lw
namespace Lw
open PySem PySem.Spec PyProof.Rows L2 Ob Mi StX
/-! ### two repeated texts that agree long enough agree for ever -/
theorem agree {f g : Nat → Option Nat} {a b : Nat} (ha : 0 < a) (hb : 0 < b) (pf : ∀ i, f (i + a) = f i) (pg : ∀ i, g (i + b) = g i) (h : ∀ i, i < a + b → f i = g i) : ∀ i, f i = g i := by
  intro i
  induction i using Nat.strongRecOn with
  | ind i ih =>
    by_cases c : i < a + b
    · exact h i c
    · have e1 : f i = f (i - a) := by rw [← pf (i - a), Nat.sub_add_cancel (by omega)]
      have e2 : g (i - a) = g (i - a - b) := by rw [← pg (i - a - b), Nat.sub_add_cancel (by omega)]
      have e3 : f (i - b) = f (i - a - b) := by rw [← pf (i - a - b)]; congr 1; omega
      have e4 : g i = g (i - b) := by rw [← pg (i - b), Nat.sub_add_cancel (by omega)]
      rw [e1, ih (i - a) (by omega), e2, ← ih (i - a - b) (by omega), ← e3, ih (i - b) (by omega), ← e4]
/-- so many items of an endlessly repeated text -/
def seg (p : List Nat) (u m : Nat) : List Nat := ((rep ((u % p.length + m) / p.length + 1) p).drop (u % p.length)).take m
theorem seg_get {p : List Nat} {u m i : Nat} (hp : 0 < p.length) (hi : i < m) : (seg p u m)[i]? = p[(u + i) % p.length]? := by
  unfold seg
  have hm := Nat.mod_lt u hp
  have hd : (u % p.length + m) / p.length * p.length + (u % p.length + m) % p.length = u % p.length + m := by rw [Nat.mul_comm]; exact Nat.div_add_mod _ _
  have hm2 := Nat.mod_lt (u % p.length + m) hp
  have hlt : u % p.length + i < ((u % p.length + m) / p.length + 1) * p.length := by rw [Nat.succ_mul]; omega
  rw [List.getElem?_take, if_pos hi, List.getElem?_drop, rep_get hlt, Nat.mod_add_mod]
theorem seg_len {p : List Nat} {u m : Nat} (hp : 0 < p.length) : (seg p u m).length = m := by
  unfold seg
  have hd : (u % p.length + m) / p.length * p.length + (u % p.length + m) % p.length = u % p.length + m := by rw [Nat.mul_comm]; exact Nat.div_add_mod _ _
  have hm2 := Nat.mod_lt (u % p.length + m) hp
  rw [List.length_take, List.length_drop, rep_len, Nat.succ_mul]
  omega
theorem seg_agree {p q : List Nat} {u v m : Nat} (hp : 0 < p.length) (hq : 0 < q.length) : seg p u m = seg q v m ↔ seg p u (min m (p.length + q.length)) = seg q v (min m (p.length + q.length)) := by
  have ext : ∀ n, seg p u n = seg q v n ↔ ∀ i, i < n → p[(u + i) % p.length]? = q[(v + i) % q.length]? := by
    intro n
    constructor
    · intro e i hi
      rw [← seg_get hp hi, ← seg_get hq hi, e]
    · intro e
      refine List.ext_getElem? fun i => ?_
      by_cases hi : i < n
      · rw [seg_get hp hi, seg_get hq hi, e i hi]
      · rw [List.getElem?_eq_none (by rw [seg_len hp]; omega), List.getElem?_eq_none (by rw [seg_len hq]; omega)]
  rw [ext, ext]
  constructor
  · intro e i hi
    exact e i (by omega)
  · intro e
    by_cases c : m ≤ p.length + q.length
    · rw [Nat.min_eq_left c] at e
      exact e
    · rw [Nat.min_eq_right (by omega)] at e
      have := agree (f := fun i => p[(u + i) % p.length]?) (g := fun i => q[(v + i) % q.length]?) hp hq (fun i => by simp only [← Nat.add_assoc, Nat.add_mod_right]) (fun i => by simp only [← Nat.add_assoc, Nat.add_mod_right]) e
      exact fun i _ => this i
/-- the items of a run from one of its items on -/
theorem seg_run {p : List Nat} {n u m : Nat} (hp : 0 < p.length) (h : u + m ≤ n * p.length) : seg p u m = ((rep n p).drop u).take m := by
  refine List.ext_getElem? fun i => ?_
  by_cases hi : i < m
  · rw [seg_get hp hi, List.getElem?_take, if_pos hi, List.getElem?_drop, rep_get (by omega)]
  · rw [List.getElem?_eq_none (by rw [seg_len hp]; omega), List.getElem?_eq_none (by rw [List.length_take]; omega)]

end Lw
namespace Lw
open PySem PySem.Spec PyProof.Rows L2 Ob Mi StX
/-! ### what is drawn -/
theorem take_w {h : Mh} {b : Nat} {m : Int} {Q : MV → Mh → Prop} {E : Exn → Mh → Prop} (hb : Bg h b) (h1 : 1 ≤ m) (h2 : m ≤ 10000000000000000000000000000000000000000000000000000000000000000000000) (k : ∀ n h', 0 ≤ n → n < m → Kp b h h' → Q (.int n) h') : Wm (F__law_take [.ref b, .int m] h) Q E := by
  obtain ⟨g, r, c, e, g0, r0, r1⟩ := hb
  unfold F__law_take
  rw [wm_fn]
  have hl : m.natAbs.log2 < 9000 := by
    have h3 : m.natAbs < 2 ^ 240 := by
      have : (10000000000000000000000000000000000000000000000000000000000000000000000 : Nat) < 2 ^ 240 := by decide +kernel
      omega
    have : m.natAbs.log2 < 240 := (Nat.log2_lt (by omega)).mpr h3
    omega
  have e1 : ∀ x, (h.set b x)[b]? = some x := fun x => set_at e
  simp [B__law_take, sSet, sRet, sRetN, sNop, sDrop, sPar, sPar3, sAsg, sBrk, sCnt, sAug, sSto, sFldM, sDel, sAsg2, x1, x2, xVar, xC, xIf, xAnd, xOr, xNil, xCons, tsb, tst, tAnM, tOrM, tNoM, xBM, xMeth, xChain, mTup, mLst, mkl, mAdd, mSub, mMul, mFdv, mMod, mPow, mNeg, mOrd, mEqS, mNeS, mEq, mNe, mAbs, mLen, mSub2, mIx, atI, ixN, stoM, mTuple, mAppend, mNot, mIsN, mNotN, mIsB, lstAt, isTy, lsv, lsw, seqv, tpv, gNm, gTp, gCn, gNl, truM, iRange1, iRange2, setL, wipM, e, e1]
  split
  · exact ⟨by omega, ⟨by omega, hl⟩, k _ _ (Int.emod_nonneg _ (by omega)) (Int.emod_lt_of_pos _ (by omega)) (Kp.put e (Int.ediv_nonneg g0 (by omega)) r0 r1)⟩
  · have b1 : 0 ≤ (r * 48271 + 7919 * (c + 1) + 13) % 2147483647 := Int.emod_nonneg _ (by decide)
    have b2 : (r * 48271 + 7919 * (c + 1) + 13) % 2147483647 < 2147483647 := Int.emod_lt_of_pos _ (by decide)
    generalize (r * 48271 + 7919 * (c + 1) + 13) % 2147483647 = r2 at b1 b2
    exact ⟨.inr (.inr ⟨by decide, by decide⟩), .inr (.inl ⟨by decide, by decide⟩), by decide +kernel, by omega, by omega, k _ _ (Int.emod_nonneg _ (by omega)) (Int.emod_lt_of_pos _ (by omega)) (Kp.put e g0 b1 b2)⟩
theorem bag_w {h : Mh} {ns : List Int} {n : Nat} {Q : MV → Mh → Prop} {E : Exn → Mh → Prop} (hl : ns.length ≤ 63) (hn : n < 1000) (k : ∀ g r : Int, 0 ≤ g → 0 ≤ r → r < 2147483647 → Q (.ref h.length) (h ++ [.lst [.int g, .int r, .int 0]])) : Wm (F__law_bag [.rol (ns.map .int), .int n] h) Q E := by
  unfold F__law_bag
  rw [wm_fn]
  refine ⟨rfl, ?_⟩
  unfold B__law_bag
  refine ws_cut (fun g h' => (∃ c : Int, g = [some (.rol (ns.map .int)), some (.int n), some (.int c), none]) ∧ h = h') ?_ ?_
  · by_cases hi : n < ns.length
    · simp [sSet, sRet, sRetN, sNop, sDrop, sPar, sPar3, sAsg, sBrk, sCnt, sAug, sSto, sFldM, sDel, sAsg2, x1, x2, xVar, xC, xIf, xAnd, xOr, xNil, xCons, tsb, tst, tAnM, tOrM, tNoM, xBM, xMeth, xChain, mTup, mLst, mkl, mAdd, mSub, mMul, mFdv, mMod, mPow, mNeg, mOrd, mEqS, mNeS, mEq, mNe, mAbs, mLen, mSub2, mIx, atI, ixN, stoM, mTuple, mAppend, mNot, mIsN, mNotN, mIsB, lstAt, isTy, lsv, lsw, seqv, tpv, gNm, gTp, gCn, gNl, truM, iRange1, iRange2, setL, wipM, hi]
    · simp [sSet, sRet, sRetN, sNop, sDrop, sPar, sPar3, sAsg, sBrk, sCnt, sAug, sSto, sFldM, sDel, sAsg2, x1, x2, xVar, xC, xIf, xAnd, xOr, xNil, xCons, tsb, tst, tAnM, tOrM, tNoM, xBM, xMeth, xChain, mTup, mLst, mkl, mAdd, mSub, mMul, mFdv, mMod, mPow, mNeg, mOrd, mEqS, mNeS, mEq, mNe, mAbs, mLen, mSub2, mIx, atI, ixN, stoM, mTuple, mAppend, mNot, mIsN, mNotN, mIsB, lstAt, isTy, lsv, lsw, seqv, tpv, gNm, gTp, gCn, gNl, truM, iRange1, iRange2, setL, wipM, hi]
  rintro _ _ ⟨⟨c, rfl⟩, rfl⟩
  refine ws_cut (fun g h' => (∃ d : Int, 0 ≤ d ∧ g = [some (.rol (ns.map .int)), some (.int n), some (.int c), some (.int d)]) ∧ h = h') ?_ ?_
  · simp [sSet, sRet, sRetN, sNop, sDrop, sPar, sPar3, sAsg, sBrk, sCnt, sAug, sSto, sFldM, sDel, sAsg2, x1, x2, xVar, xC, xIf, xAnd, xOr, xNil, xCons, tsb, tst, tAnM, tOrM, tNoM, xBM, xMeth, xChain, mTup, mLst, mkl, mAdd, mSub, mMul, mFdv, mMod, mPow, mNeg, mOrd, mEqS, mNeS, mEq, mNe, mAbs, mLen, mSub2, mIx, atI, ixN, stoM, mTuple, mAppend, mNot, mIsN, mNotN, mIsB, lstAt, isTy, lsv, lsw, seqv, tpv, gNm, gTp, gCn, gNl, truM, iRange1, iRange2, setL, wipM]
    omega
  rintro _ _ ⟨⟨d, hd, rfl⟩, rfl⟩
  have hc : 0 ≤ c % 2147483647 ∧ c % 2147483647 < 2147483647 := ⟨Int.emod_nonneg _ (by decide), Int.emod_lt_of_pos _ (by decide)⟩
  generalize e2 : c % 2147483647 = c2 at hc
  have b1 : 0 ≤ (c2 * 69621 + 104723 * (n : Int) + 31) % 2147483629 := Int.emod_nonneg _ (by decide)
  have b2 : (c2 * 69621 + 104723 * (n : Int) + 31) % 2147483629 < 2147483629 := Int.emod_lt_of_pos _ (by decide)
  simp [sSet, sRet, sRetN, sNop, sDrop, sPar, sPar3, sAsg, sBrk, sCnt, sAug, sSto, sFldM, sDel, sAsg2, x1, x2, xVar, xC, xIf, xAnd, xOr, xNil, xCons, tsb, tst, tAnM, tOrM, tNoM, xBM, xMeth, xChain, mTup, mLst, mkl, mAdd, mSub, mMul, mFdv, mMod, mPow, mNeg, mOrd, mEqS, mNeS, mEq, mNe, mAbs, mLen, mSub2, mIx, atI, ixN, stoM, mTuple, mAppend, mNot, mIsN, mNotN, mIsB, lstAt, isTy, lsv, lsw, seqv, tpv, gNm, gTp, gCn, gNl, truM, iRange1, iRange2, setL, wipM, e2]
  exact ⟨.inr (.inr ⟨by decide, by decide⟩), .inr (.inl ⟨by decide, by decide⟩), k _ _ hd (by omega) (by omega)⟩

end Lw
namespace Lw
open PySem PySem.Spec PyProof.Rows L2 Ob Mi StX
theorem strs_sgV (cs : List Nat) : strsOf (cs.map fun c => MV.str ⟨#[c]⟩) = some (cs.map fun c => (⟨#[c]⟩ : Str)) := by
  have := strsOf_map (cs.map fun c => (⟨#[c]⟩ : Str))
  rwa [List.map_map] at this
theorem join_w {cs : List Nat} {h : Mh} {Q : MV → Mh → Prop} {E : Exn → Mh → Prop} (hz : cs.length ≤ 16000000) : Wm (mJoin (.str "") [.tl (cs.map fun c => .str ⟨#[c]⟩)] h) Q E = Q (.str ⟨cs.toArray⟩) h := by
  have h1 : ((cs.map fun c => (⟨#[c]⟩ : Str)).map (·.length)).sum = cs.length := by
    induction cs with
    | nil => rfl
    | cons c cs ih =>
      have := ih (by simp at hz; omega)
      simp at this ⊢
      rw [this]
      show 1 + cs.length = cs.length + 1
      omega
  have h2 : (Str.ofString "").length = 0 := rfl
  unfold mJoin
  simp only [seqv, tpv, lsv, Option.bind_some, strs_sgV]
  rw [if_pos (by rw [h1, h2]; omega), wm_ok, join_sgV]
/-- a text of a, b, c, d -/
def Tx (z : Str) : Prop := ∀ c ∈ z.cps.toList, c = 97 ∨ c = 98 ∨ c = 99 ∨ c = 100
theorem abcd_at {h : Mh} {n : Int} {Q : MV → Mh → Prop} {E : Exn → Mh → Prop} (h0 : 0 ≤ n) (h1 : n < 4) (k : ∀ c : Nat, (c = 97 ∨ c = 98 ∨ c = 99 ∨ c = 100) → Q (.str ⟨#[c]⟩) h) : Wm (mSub2 (.str "abcd") (.int n) h) Q E := by
  have hn : n = 0 ∨ n = 1 ∨ n = 2 ∨ n = 3 := by omega
  rcases hn with rfl | rfl | rfl | rfl
  · exact k 97 (by simp)
  · exact k 98 (by simp)
  · exact k 99 (by simp)
  · exact k 100 (by simp)
theorem rng_len (n : Int) : (rngM 0 n.toNat).length = n.toNat := by simp [rngM]

end Lw
namespace Lw
open PySem PySem.Spec PyProof.Rows L2 Ob Mi StX
theorem text_w {h : Mh} {b : Nat} {m : Int} {Q : MV → Mh → Prop} {E : Exn → Mh → Prop} (hb : Bg h b) (h0 : 0 ≤ m) (h1 : m ≤ 1000) (k : ∀ z h', Tx z → (z.cps.size : Int) ≤ m → Kp b h h' → Q (.str z) h') : Wm (F__law_text [.ref b, .int m] h) Q E := by
  unfold F__law_text
  rw [wm_fn]
  refine ⟨rfl, ?_⟩
  unfold B__law_text
  simp [sSet, sRet, sRetN, sNop, sDrop, sPar, sPar3, sAsg, sBrk, sCnt, sAug, sSto, sFldM, sDel, sAsg2, x1, x2, xVar, xC, xIf, xAnd, xOr, xNil, xCons, tsb, tst, tAnM, tOrM, tNoM, xBM, xMeth, xChain, mTup, mLst, mkl, mAdd, mSub, mMul, mFdv, mMod, mPow, mNeg, mOrd, mEqS, mNeS, mEq, mNe, mAbs, mLen, mSub2, mIx, atI, ixN, stoM, mTuple, mAppend, mNot, mIsN, mNotN, mIsB, lstAt, isTy, lsv, lsw, seqv, tpv, gNm, gTp, gCn, gNl, truM, iRange1, iRange2, setL, wipM, xLc]
  refine take_w hb (by omega) (by omega) fun n h1 n0 n1 k1 => ?_
  simp only [show -4611686018427387904 ≤ n ∧ n < 4611686018427387904 by omega, and_self, if_true]
  refine comp_inv (fun i acc h2 => ∃ cs : List Nat, acc = cs.map (fun c => .str ⟨#[c]⟩) ∧ cs.length = i ∧ (∀ c ∈ cs, c = 97 ∨ c = 98 ∨ c = 99 ∨ c = 100) ∧ Kp b h h2) (by rw [rng_len]; omega) ⟨[], rfl, rfl, by simp, k1⟩ ?_ ?_
  · rintro i x acc h2 e ⟨cs, rfl, hi, hc, k2⟩
    refine ⟨_, rfl, ?_⟩
    simp [sSet, sRet, sRetN, sNop, sDrop, sPar, sPar3, sAsg, sBrk, sCnt, sAug, sSto, sFldM, sDel, sAsg2, x1, x2, xVar, xC, xIf, xAnd, xOr, xNil, xCons, tsb, tst, tAnM, tOrM, tNoM, xBM, xMeth, xChain, xLc, gNm, gTp, gCn, gNl, cNm, cTp, cYes, setL, wipM]
    refine take_w k2.bag (by omega) (by omega) fun n2 h3 n3 n4 k3 => ?_
    refine abcd_at n3 n4 fun c hc2 => ⟨cs ++ [c], by simp, by simp [hi], ?_, k2.trans k3⟩
    intro d hd
    rcases List.mem_append.mp hd with q | q
    · exact hc d q
    · rw [List.mem_singleton.mp q]; exact hc2
  · rintro acc h2 ⟨cs, rfl, hi, hc, k2⟩
    rw [rng_len] at hi
    rw [join_w (by omega)]
    exact k _ _ (by simpa [Tx] using hc) (by simp; omega) k2

end Lw
namespace Lw
open PySem PySem.Spec PyProof.Rows L2 Ob Mi StX
/-! ### runs -/
theorem wm_eq {α : Type} {r : Option (Rs α)} {x : α} {h : Mh} (w : Wm r (fun a h' => a = x ∧ h' = h) NE) : r = some (.ok x h) := by
  obtain ⟨a, h', e, rfl, rfl⟩ := w.out
  exact e
def st (p : List Nat) : Str := ⟨p.toArray⟩
theorem st_list (p : List Nat) : (st p).cps.toList = p := by simp [st]
theorem st_size (p : List Nat) : (st p).cps.size = p.length := by simp [st]
theorem st_inj {p q : List Nat} : st p = st q ↔ p = q := ⟨fun e => by rw [← st_list p, e, st_list], fun e => by rw [e]⟩
theorem st_empty : ("" : Str) = st [] := rfl
theorem st_of (z : Str) : st z.cps.toList = z := rfl
def enR (q : List Nat × Nat) : MV := .tup [.str (st q.1), .int (q.2 : Nat)]
def lcB (c : Nat) : Bool := decide (c = 97 ∨ c = 98 ∨ c = 99 ∨ c = 100)
def LcA (p : List Nat) : Prop := ∀ c ∈ p, c = 97 ∨ c = 98 ∨ c = 99 ∨ c = 100
/-- what tidy leaves -/
structure RunsOk (rs : List (List Nat × Nat)) : Prop where
  el : ∀ q ∈ rs, q.1 ≠ [] ∧ 0 < q.2 ∧ LcA q.1 ∧ q.1.length ≤ 2000
  few : rs.length ≤ 4000
  big : (txt rs).length < 2 ^ 400
theorem txt_pos {rs : List (List Nat × Nat)} (h : ∀ q ∈ rs, q.1 ≠ [] ∧ 0 < q.2) : rs ≠ [] → txt rs ≠ [] := by
  cases rs with
  | nil => intro z; exact absurd rfl z
  | cons q rs =>
    intro _ e
    obtain ⟨a, b⟩ := h q (List.mem_cons_self ..)
    rw [txt_cons] at e
    have e1 := (List.append_eq_nil_iff.mp e).1
    have := rep_len q.1 q.2
    rw [e1] at this
    have : 0 < q.1.length := by cases hq : q.1 with | nil => exact absurd hq a | cons _ _ => simp
    have := Nat.mul_pos b this
    simp at *
    omega
theorem txt_mem_len {rs : List (List Nat × Nat)} {q : List Nat × Nat} (hq : q ∈ rs) : q.2 * q.1.length ≤ (txt rs).length := by
  induction rs with
  | nil => cases hq
  | cons r rs ih =>
    rw [txt_cons, List.length_append, rep_len]
    rcases List.mem_cons.mp hq with rfl | hq
    · omega
    · have := ih hq
      omega
theorem RunsOk.cnt {rs : List (List Nat × Nat)} (h : RunsOk rs) {q : List Nat × Nat} (hq : q ∈ rs) : q.2 < 2 ^ 400 := by
  have h1 := txt_mem_len hq
  have h2 := h.big
  obtain ⟨a, _⟩ := h.el q hq
  have : 0 < q.1.length := by cases hq : q.1 with | nil => exact absurd hq a | cons _ _ => simp
  have := Nat.le_mul_of_pos_right q.2 this
  omega
section
variable {h : Mh} {Q : MV → Mh → Prop} {E : Exn → Mh → Prop}
theorem cut_st {p : List Nat} {b : Bool} {lo hi : Option Int} (hz : p.length ≤ 16000000) : Wm (mCut b (.str (st p)) lo hi h) Q E = Q (.str (st (cutL p lo hi))) h := by
  have e1 : (st p).length ≤ sizeLine := by rw [sizeLine_eq]; show (st p).cps.size ≤ _; rw [st_size]; omega
  have e : mCut b (.str (st p)) lo hi h = some (.ok (.str (L2.cutS (st p) lo hi)) h) := if_pos e1
  rw [e, wm_ok]
  unfold L2.cutS cutL
  rw [st_list, show (st p).length = p.length from st_size p]
  rfl
theorem len_st {p : List Nat} (hz : p.length ≤ 16000000) : Wm (mLen [.str (st p)] h) Q E = Q (.int (p.length : Nat)) h := by
  rw [lenS (by rw [st_size, sizeLine_eq]; omega), st_size]
theorem add_st {p q : List Nat} {b : Bool} (hz : p.length + q.length ≤ 16000000) : Wm (mAdd b (.str (st p)) (.str (st q)) h) Q E = Q (.str (st (p ++ q))) h := by
  have e : mAdd b (.str (st p)) (.str (st q)) h = some (.ok (.str (st (p ++ q))) h) := by
    have e1 : (st p).length + (st q).length ≤ sizeLine := by
      rw [sizeLine_eq]
      show (st p).cps.size + (st q).cps.size ≤ _
      rw [st_size, st_size]
      omega
    have e2 : st p ++ st q = st (p ++ q) := by
      show (⟨(st p).cps ++ (st q).cps⟩ : Str) = _
      simp [st]
    rw [← e2]
    simp only [mAdd]
    rw [if_pos e1]
  rw [e, wm_ok]
theorem root_w {p : List Nat} (h0 : p ≠ []) (hz : p.length ≤ 2000) : ∃ d, 1 ≤ d ∧ d ≤ p.length ∧ p.length % d = 0 ∧ p = rep (p.length / d) (p.take d) ∧ ∀ h, F_root [.str (st p)] h = some (.ok (.str (st (p.take d))) h) := by
  have hp : 0 < (st p).cps.size := by
    rw [st_size]
    cases p with
    | nil => exact absurd rfl h0
    | cons _ _ => simp
  obtain ⟨d, e, d1, d2, d3, d4⟩ := find_root hp
  rw [st_size] at d2 d3 d4
  rw [st_list] at d4
  refine ⟨d, d1, d2, d3, d4, fun h => wm_eq ?_⟩
  unfold F_root
  rw [wm_fn]
  refine ⟨rfl, ?_⟩
  unfold B_root
  have e2 : st (p ++ p) = st p ++ st p := by
    show _ = (⟨(st p).cps ++ (st p).cps⟩ : Str)
    simp [st]
  have ef : ∀ h, mFind3 (.str (st (p ++ p))) [.str (st p), .int 1] h = some (.ok (.int (d : Int)) h) := fun h => by
    rw [e2]
    show some (Rs.ok (MV.int (Txt.find3 (st p ++ st p) (st p) 1)) h) = _
    rw [e]
  have ty : ∀ (z : Str) (h : Mh), isTy "str" (.str z) h = true := fun _ _ => rfl
  simp only [sRet, ws_bs, xSl, xNoP, xPart, xBM, x1, xCons, x2, xVar, xC, xNil, wm_bd, wm_ok, wm_pu, List.replicate, List.map_cons, List.map_nil, List.cons_append, List.nil_append, List.getElem?_cons_zero, List.getElem?_cons_succ, add_st (show p.length + p.length ≤ 16000000 by omega), ty, if_true, wm_itf, ef, ws_rt]
  rw [cut_st (by omega)]
  have : cutL p none (some (d : Int)) = p.take d := by
    unfold cutL
    rw [HT.sIx_nat, HT.sIx_none, Nat.min_eq_left d2]
    rfl
  rw [this]
  exact ⟨rfl, rfl⟩
end

end Lw
namespace Lw
open PySem PySem.Spec PyProof.Rows L2 Ob Mi StX
/-! ### loops over any iterator -/
section
variable {α β γ : Type} {h : Mh} {g : Sg} {Q : List MV → Mh → Prop} {E : Exn → Mh → Prop} {nx : Sg → Mh → Prop} {rt : MV → Mh → Prop} {bk ct : Sg → Mh → Prop} {ex : Exn → Sg → Mh → Prop}
theorem comp_invG {it : MIt} {xs : List MV} {T : CT} {C : Sg → M Bool} {F : Sg → M MV} (Inv : Nat → List MV → Mh → Prop) (hit : ∀ i acc h, Inv i acc h → it i h = some xs[i]?) (hl : xs.length < 16000000) (h0 : Inv 0 [] h)
    (step : ∀ i x acc h, xs[i]? = some x → Inv i acc h → ∃ g1, T x g = some g1 ∧ Wm (C g1 h) (fun k h1 => if k = true then Wm (F g1 h1) (fun y h2 => Inv (i + 1) (acc ++ [y]) h2) NE else Inv (i + 1) acc h1) NE)
    (done : ∀ acc h, Inv xs.length acc h → Q acc h) : Wm (compN FUEL it T C F g 0 [] h) Q E := by
  have key : ∀ n i acc h, i ≤ xs.length → xs.length < i + n → acc.length ≤ i → Inv i acc h → Wm (compN n it T C F g i acc h) Q E := by
    intro n
    induction n with
    | zero => intro i acc h a b; omega
    | succ n ih =>
      intro i acc h a b c q
      unfold compN
      rw [hit i acc h q]
      cases e : xs[i]? with
      | none =>
        have : i = xs.length := by
          have := List.getElem?_eq_none_iff.mp e
          omega
        subst this
        exact done acc h q
      | some x =>
        have hi : i < xs.length := (List.getElem?_eq_some_iff.mp e).1
        obtain ⟨g1, eT, st⟩ := step i x acc h e q
        dsimp only
        rw [eT]
        dsimp only
        obtain ⟨k, h1, eC, st⟩ := st.out
        rw [eC]
        cases k with
        | false => exact ih (i + 1) acc h1 hi (by omega) (by omega) st
        | true =>
          rw [if_pos rfl] at st
          obtain ⟨y, h2, eE, st⟩ := st.out
          dsimp only
          rw [eE]
          dsimp only
          rw [if_pos (by rw [sizeLine_eq]; omega)]
          exact ih (i + 1) (acc ++ [y]) h2 hi (by omega) (by simp; omega) st
  exact key FUEL 0 [] h (Nat.zero_le _) (by rw [FUEL_eq]; omega) (Nat.zero_le _) h0
theorem for_invG {it : MIt} {xs : List MV} {T : MT} {B : MS} (Inv : Nat → Sg → Mh → Prop) (hit : ∀ i g h, Inv i g h → it i h = some xs[i]?) (hl : xs.length < 1000000000) (h0 : Inv 0 g h)
    (step : ∀ i x g h, xs[i]? = some x → Inv i g h → Wm (T x g h) (fun g1 h1 => Ws (B g1 h1) (Inv (i + 1)) rt nx (Inv (i + 1)) ex) NE)
    (done : ∀ g h, Inv xs.length g h → nx g h) : Ws (forN FUEL it T B 0 g h) nx rt bk ct ex := by
  have key : ∀ n i g h, i ≤ xs.length → xs.length < i + n → Inv i g h → Ws (forN n it T B i g h) nx rt bk ct ex := by
    intro n
    induction n with
    | zero => intro i g h a b; omega
    | succ n ih =>
      intro i g h a b q
      unfold forN
      rw [hit i g h q]
      cases e : xs[i]? with
      | none =>
        have : i = xs.length := by
          have := List.getElem?_eq_none_iff.mp e
          omega
        subst this
        exact done g h q
      | some x =>
        have hi : i < xs.length := (List.getElem?_eq_some_iff.mp e).1
        have st := step i x g h e q
        dsimp only
        cases eT : T x g h with
        | none => rw [eT] at st; exact st.elim
        | some r1 =>
          rw [eT] at st
          cases r1 with
          | ex e1 h1 => exact st.elim
          | ok g1 h1 =>
            have st : Ws (B g1 h1) (Inv (i + 1)) rt nx (Inv (i + 1)) ex := st
            dsimp only
            cases eB : B g1 h1 with
            | none => rw [eB] at st; exact st.elim
            | some r2 =>
              rw [eB] at st
              cases r2 with
              | nx g2 h2 => exact ih (i + 1) g2 h2 hi (by omega) st
              | ct g2 h2 => exact ih (i + 1) g2 h2 hi (by omega) st
              | bk g2 h2 => exact st
              | rt v h2 => exact st
              | ex e2 g2 h2 => exact st
  exact key FUEL 0 g h (Nat.zero_le _) (by rw [FUEL_eq]; omega) h0
end
theorem ws_cutP {A B : MS} {g : Sg} {h : Mh} {nx : Sg → Mh → Prop} {rt : MV → Mh → Prop} {bk ct : Sg → Mh → Prop} {ex : Exn → Sg → Mh → Prop} (P : Sg → Mh → Prop) (a : ∀ P' : Sg → Mh → Prop, (∀ g h, P g h → P' g h) → Ws (A g h) P' rt bk ct ex) (b : ∀ g h, P g h → Ws (B g h) nx rt bk ct ex) : Ws (sSeq A B g h) nx rt bk ct ex :=
  ws_cut P (a P fun _ _ z => z) b
theorem ws_ifT {T : Sg → M Bool} {A B : MS} {g : Sg} {h : Mh} {nx : Sg → Mh → Prop} {rt : MV → Mh → Prop} {bk ct : Sg → Mh → Prop} {ex : Exn → Sg → Mh → Prop} (t : Wm (T g h) (fun k h' => k = true ∧ h' = h) NE) (w : Ws (A g h) nx rt bk ct ex) : Ws (sIf T A B g h) nx rt bk ct ex := by
  obtain ⟨k, h', e, rfl, rfl⟩ := t.out
  rw [ws_if, e, wm_ok, if_pos rfl]
  exact w
theorem ws_ifF {T : Sg → M Bool} {A B : MS} {g : Sg} {h : Mh} {nx : Sg → Mh → Prop} {rt : MV → Mh → Prop} {bk ct : Sg → Mh → Prop} {ex : Exn → Sg → Mh → Prop} (t : Wm (T g h) (fun k h' => k = false ∧ h' = h) NE) (w : Ws (B g h) nx rt bk ct ex) : Ws (sIf T A B g h) nx rt bk ct ex := by
  obtain ⟨k, h', e, rfl, rfl⟩ := t.out
  rw [ws_if, e, wm_ok, if_neg Bool.false_ne_true]
  exact w
/-- an if that does nothing here -/
theorem ws_skip {T : Sg → M Bool} {A B : MS} {g : Sg} {h : Mh} {nx : Sg → Mh → Prop} {rt : MV → Mh → Prop} {bk ct : Sg → Mh → Prop} {ex : Exn → Sg → Mh → Prop} (t : Wm (T g h) (fun k h' => k = false ∧ h' = h) NE) (w : Ws (B g h) nx rt bk ct ex) : Ws (sSeq (sIf T A sNop) B g h) nx rt bk ct ex := by
  rw [ws_seq]
  exact ws_ifF t w
section
variable {h : Mh} {Q : MV → Mh → Prop} {E : Exn → Mh → Prop}
theorem iterH {n : Nat} {xs : List MV} {Q : MIt → Mh → Prop} (e : h[n]? = some (.lst xs)) : Wm (iAny (.ref n) h) Q E = Q (itH n) h := by simp [iAny, tpv, e]
theorem itH_at {n : Nat} {xs : List MV} {i : Nat} (e : h[n]? = some (.lst xs)) : itH n i h = some xs[i]? := by simp [itH, e]
theorem tup1 {xs : List MV} (hz : xs.length ≤ 1000) : Wm (mTup xs h) Q E = Q (.tup xs) h := by simp [mTup, hz]
theorem lst1 {xs : List MV} (hz : xs.length ≤ 1000) : Wm (mLst false xs h) Q E = Q (.tl xs) h := by simp [mLst, hz, mkl]
/-- v is a list of xs, on the heap or not -/
def IsSq (h : Mh) (v : MV) (xs : List MV) : Prop := v = .tl xs ∨ ∃ l, v = .ref l ∧ h[l]? = some (.lst xs)
theorem IsSq.iter {v : MV} {xs : List MV} (s : IsSq h v xs) : ∃ it : MIt, (∀ (Q : MIt → Mh → Prop) (E : Exn → Mh → Prop), Wm (iAny v h) Q E = Q it h) ∧ ∀ h', (∀ l, v = .ref l → h'[l]? = h[l]?) → ∀ i, it i h' = some xs[i]? := by
  rcases s with rfl | ⟨l, rfl, e⟩
  · exact ⟨itC xs, fun Q E => by simp [iAny, tpv], fun h' _ i => rfl⟩
  · exact ⟨itH l, fun Q E => iterH e, fun h' k i => itH_at (by rw [k l rfl]; exact e)⟩
theorem IsSq.old {v : MV} {xs : List MV} {h' : Mh} (s : IsSq h v xs) (k : ∀ j, j < h.length → h'[j]? = h[j]?) : IsSq h' v xs := by
  rcases s with rfl | ⟨l, rfl, e⟩
  · exact .inl rfl
  · exact .inr ⟨l, rfl, by rw [k l (at_lt e)]; exact e⟩
theorem IsSq.lt {v : MV} {xs : List MV} (s : IsSq h v xs) {l : Nat} (e : v = .ref l) : l < h.length := by
  rcases s with rfl | ⟨l2, rfl, e2⟩
  · cases e
  · cases e
    exact at_lt e2
end
theorem app_cps (a b : Str) : (a ++ b).cps.toList = a.cps.toList ++ b.cps.toList := by
  show (a.cps ++ b.cps).toList = _
  simp
theorem app_size (a b : Str) : (a ++ b).cps.size = a.cps.size + b.cps.size := by
  show (a.cps ++ b.cps).size = _
  simp
theorem str_ext {a b : Str} (h : a.cps.toList = b.cps.toList) : a = b := by
  cases a; cases b
  simp at h
  rw [h]
theorem mul_cps (z : Str) (n : Nat) : (Txt.mul z n).cps.toList = (List.replicate n z.cps.toList).flatten := by
  have key : ∀ (m : Nat) (a : Array Nat), ((List.replicate m z.cps).foldl (· ++ ·) a).toList = a.toList ++ (List.replicate m z.cps.toList).flatten := by
    intro m
    induction m with
    | zero => intro a; simp
    | succ m ih =>
      intro a
      rw [List.replicate_succ, List.foldl_cons, ih, List.replicate_succ, List.flatten_cons]
      simp
  unfold Txt.mul
  by_cases h : (n : Int) < 1
  · rw [if_pos h]
    have : n = 0 := by omega
    subst this
    rfl
  · rw [if_neg h]
    split
    · rename_i h2
      simp at h2
      rcases h2 with h2 | h2
      · have : n = 1 := by omega
        subst this
        simp
      · have : z.cps.toList = [] := by
          have h3 : z.cps.size = 0 := h2
          simpa using h3
        rw [this]
        clear h2 h
        induction n with
        | zero => rfl
        | succ n ih => rw [List.replicate_succ, List.flatten_cons, ← ih]; rfl
    · rw [Int.toNat_natCast, key]
      simp

end Lw
namespace Lw
open PySem PySem.Spec PyProof.Rows L2 Ob Mi StX
/-! ### tidy -/
def dR (q : List Nat × Nat) : PyData := .tuple [.str (st q.1), .int (q.2 : Nat)]
theorem strOk_st {p : List Nat} (h : LcA p) : PyData.strOk (st p) = true := by
  unfold PyData.strOk st
  simp only [Array.all_eq_true_iff_forall_mem, decide_eq_true_eq]
  intro c hm
  rcases h c (by simpa using hm) with rfl | rfl | rfl | rfl <;> omega
section
variable {h : Mh} {Q : MV → Mh → Prop} {E : Exn → Mh → Prop}
theorem dt_enR {n : Nat} {q : List Nat × Nat} (hq : LcA q.1) : dt h (n + 2) (enR q) = some (dR q) := by
  show (mapO (dt h (n + 1)) [.str (st q.1), .int (q.2 : Nat)]).map _ = _
  have e : dt h (n + 1) (.str (st q.1)) = some (.str (st q.1)) := if_pos (strOk_st hq)
  have e2 : dt h (n + 1) (.int (q.2 : Nat)) = some (.int (q.2 : Nat)) := rfl
  simp only [mapO, e, e2, Option.map_some]
  rfl
theorem mapO_enR {n : Nat} : ∀ {rs : List (List Nat × Nat)}, (∀ q ∈ rs, LcA q.1) → mapO (dt h (n + 2)) (rs.map enR) = some (rs.map dR)
  | [], _ => rfl
  | q :: rs, hr => by
    rw [List.map_cons, List.map_cons]
    unfold mapO
    rw [dt_enR (hr q (List.mem_cons_self ..)), mapO_enR fun r hm => hr r (List.mem_cons_of_mem _ hm)]
theorem dt_runs {l : Nat} {rs : List (List Nat × Nat)} (hl : h[l]? = some (.lst (rs.map enR))) (hr : ∀ q ∈ rs, LcA q.1) : dt h 60 (.ref l) = some (.list (rs.map dR)) := by
  show (match h[l]? with | some (.lst xs) => (mapO (dt h 59) xs).map PyData.list | _ => none) = _
  rw [hl]
  show (mapO (dt h (57 + 2)) _).map _ = _
  rw [mapO_enR hr]
  rfl
theorem ne_nil {l : Nat} {rs : List (List Nat × Nat)} (hl : h[l]? = some (.lst (rs.map enR))) (hr : ∀ q ∈ rs, LcA q.1) : Wm (mNeS (.ref l) (.tl []) h) Q E = Q (.bl (decide (rs ≠ []))) h := by
  show Wm (match dt h 60 (.ref l), dt h 60 (.tl []) with | some d, some e => some (.ok (.bl (!PyData.eqv d e)) h) | _, _ => none) Q E = _
  rw [dt_runs hl hr]
  show Q (.bl (!PyData.eqvAll (rs.map dR) [])) h = _
  cases rs <;> rfl
theorem last_w {l : Nat} {rs : List (List Nat × Nat)} {q : List Nat × Nat} (hl : h[l]? = some (.lst ((rs ++ [q]).map enR))) : Wm (mSub2 (.ref l) (.int (-1)) h) Q E = Q (enR q) h := by
  have e : mIx (.ref l) (.int (-1)) h = some (.ok (enR q) h) := by
    have ix : atI ((rs ++ [q]).map enR) (-1) = some (enR q) := by
      have hl2 : ((rs ++ [q]).map enR).length = rs.length + 1 := by simp
      have ixn : ixN (rs.length + 1) (-1) = some rs.length := by
        unfold ixN
        rw [if_neg (by omega), if_pos (by omega)]
        congr 1
        omega
      unfold atI
      rw [hl2, ixn]
      show ((rs ++ [q]).map enR)[rs.length]? = _
      rw [List.map_append, List.getElem?_append_right (by simp)]
      simp
    simp only [mIx, tpv, lsv, hl, Option.bind_some, ix, Option.map_some]
  unfold mSub2
  rw [e]
  rfl
theorem sub01 {q : List Nat × Nat} : (∀ (h : Mh) (Q : MV → Mh → Prop) (E : Exn → Mh → Prop), Wm (mSub2 (enR q) (.int 0) h) Q E = Q (.str (st q.1)) h) ∧ ∀ (h : Mh) (Q : MV → Mh → Prop) (E : Exn → Mh → Prop), Wm (mSub2 (enR q) (.int 1) h) Q E = Q (.int (q.2 : Nat)) h := ⟨fun _ _ _ => rfl, fun _ _ _ => rfl⟩
theorem pop_w {l : Nat} {rs : List (List Nat × Nat)} {q : List Nat × Nat} (hl : h[l]? = some (.lst ((rs ++ [q]).map enR))) : mPop (.ref l) [] h = some (.ok (enR q) (h.set l (.lst (rs.map enR)))) := by
  have e1 : ((rs ++ [q]).map enR)[((rs ++ [q]).map enR).length - 1]? = some (enR q) := by simp
  have e2 : ((rs ++ [q]).map enR).dropLast = rs.map enR := by simp
  simp only [mPop, lstAt, hl, e1, e2]
theorem mulN {i j : Nat} (hi : i < 2 ^ 60) : Wm (mMul false (.int (j : Nat)) (.int (i : Nat)) h) Q E = Q (.int ((j * i : Nat) : Int)) h := by
  have e : mMul false (.int (j : Nat)) (.int (i : Nat)) h = some (.ok (.int ((j : Int) * (i : Int))) h) := if_pos (.inr (.inr ⟨by omega, by omega⟩))
  rw [e, wm_ok, Int.natCast_mul]
theorem mulN' {i j : Nat} (hi : i < 2 ^ 60) : Wm (mMul false (.int (i : Nat)) (.int (j : Nat)) h) Q E = Q (.int ((i * j : Nat) : Int)) h := by
  have e : mMul false (.int (i : Nat)) (.int (j : Nat)) h = some (.ok (.int ((i : Int) * (j : Int))) h) := if_pos (.inr (.inl ⟨by omega, by omega⟩))
  rw [e, wm_ok, Int.natCast_mul]
theorem fdvN {i j : Nat} (h0 : 0 < j) (h1 : j < 2 ^ 60) : Wm (mFdv (.int (i : Nat)) (.int (j : Nat)) h) Q E = Q (.int ((i / j : Nat) : Int)) h := by
  have hl : (j : Int).natAbs.log2 < 9000 := by
    have : (j : Int).natAbs.log2 < 60 := (Nat.log2_lt (by omega)).mpr (by omega)
    omega
  have e : mFdv (.int (i : Nat)) (.int (j : Nat)) h = some (.ok (.int ((i : Int) / (j : Int))) h) := if_pos ⟨by omega, hl⟩
  rw [e, wm_ok]
  rfl
theorem mod_of {i j : Nat} (h0 : 0 < j) : Wm (mMod (.int (i : Nat)) (.int (j : Nat)) h) Q E = Q (.int ((i % j : Nat) : Int)) h := by
  have e : mMod (.int (i : Nat)) (.int (j : Nat)) h = some (.ok (.int ((i : Int) % (j : Int))) h) := if_pos (by omega)
  rw [e, wm_ok]
  rfl
@[simp] theorem neg1 : Wm (mNeg (.int 1) h) Q E = Q (.int (-1)) h := rfl
/-- what may be tidied -/
structure PairsOk (ps : List (List Nat × Nat)) : Prop where
  el : ∀ q ∈ ps, LcA q.1 ∧ q.1.length ≤ 2000
  few : ps.length ≤ 4000
  big : (txt ps).length < 2 ^ 400
theorem LcA.take {p : List Nat} (h : LcA p) (n : Nat) : LcA (p.take n) := fun c hc => h c (List.mem_of_mem_take hc)
theorem LcA.drop {p : List Nat} (h : LcA p) (n : Nat) : LcA (p.drop n) := fun c hc => h c (List.mem_of_mem_drop hc)
theorem LcA.app {p q : List Nat} (h : LcA p) (h' : LcA q) : LcA (p ++ q) := fun c hc => (List.mem_append.mp hc).elim (h c) (h' c)
theorem tidy_w {v : MV} {ps : List (List Nat × Nat)} (hs : IsSq h v (ps.map enR)) (hp : PairsOk ps) : ∃ rs, RunsOk rs ∧ txt rs = txt ps ∧ rs.length ≤ ps.length ∧ F_tidy [v] h = some (.ok (.ref h.length) (h ++ [.lst (rs.map enR)])) := by
  have w : Wm (F_tidy [v] h) (fun x h' => ∃ rs, RunsOk rs ∧ txt rs = txt ps ∧ rs.length ≤ ps.length ∧ x = .ref h.length ∧ h' = h ++ [.lst (rs.map enR)]) NE := by
    unfold F_tidy
    rw [wm_fn]
    refine ⟨rfl, ?_⟩
    unfold B_tidy
    refine ws_cutP (fun g h' => g = [some (v), some (.ref h.length), none, none, none, none] ∧ h' = h ++ [.lst []]) (fun P kp => ?_) ?_
    · simp only [sSet, x1, xNil, ws_bs, wm_bd, wm_ok, wm_pu, mLst, mkl, List.length_nil, Nat.zero_le, if_true, ws_nx, List.replicate, List.map_cons, List.map_nil, List.cons_append, List.nil_append]
      exact kp _ _ ⟨rfl, rfl⟩
    rintro _ _ ⟨rfl, rfl⟩
    obtain ⟨it, e1, e2⟩ := (hs.old (h' := h ++ [.lst []]) fun j hj => List.getElem?_append_left hj).iter
    refine ws_cutP (fun g h' => ∃ rs, RunsOk rs ∧ txt rs = txt ps ∧ rs.length ≤ ps.length ∧ h' = h ++ [.lst (rs.map enR)] ∧ ∃ u2 u3 u4 u5, g = [some (v), some (.ref h.length), u2, u3, u4, u5]) (fun P kp => ?_) ?_
    · rw [ws_for]
      simp only [x1, xVar, wm_bd, wm_ok, List.getElem?_cons_zero, e1]
      refine for_invG (xs := ps.map enR) (fun i g h' => ∃ rs, (∀ q ∈ rs, q.1 ≠ [] ∧ 0 < q.2 ∧ LcA q.1 ∧ q.1.length ≤ 2000) ∧ rs.length ≤ i ∧ txt rs = txt (ps.take i) ∧ h' = h ++ [.lst (rs.map enR)] ∧ ∃ u2 u3 u4 u5, g = [some (v), some (.ref h.length), u2, u3, u4, u5]) ?_ (by have := hp.few; simp; omega) ⟨[], by simp, Nat.le_refl _, rfl, rfl, _, _, _, _, rfl⟩ ?_ ?_
      · rintro i g h' ⟨rs, _, _, _, rfl, _⟩
        exact e2 _ (fun l el => by rw [List.getElem?_append_left (hs.lt el), List.getElem?_append_left (hs.lt el)]) i
      · rintro i x g h' ex ⟨rs, r1, r2, r3, rfl, u2, u3, u4, u5, rfl⟩
        rw [List.getElem?_map] at ex
        obtain ⟨q, eq, rfl⟩ := Option.map_eq_some_iff.mp ex
        have hi : i < ps.length := (List.getElem?_eq_some_iff.mp eq).1
        have hm : q ∈ ps := List.mem_of_getElem? eq
        have ht : txt (ps.take (i + 1)) = txt (ps.take i) ++ rep q.2 q.1 := by
          rw [List.take_succ_eq_append_getElem hi, txt_app, (List.getElem?_eq_some_iff.mp eq).2, txt_one]
        obtain ⟨q1, q2⟩ := hp.el q hm
        have hn : (h ++ [.lst (rs.map enR)])[h.length]? = some (.lst (rs.map enR)) := push_at
        have g1 : gTp 2 (gCn (gNm 2) (gCn (gNm 3) gNl)) (enR q) [some (v), some (.ref h.length), u2, u3, u4, u5] (h ++ [.lst (rs.map enR)]) = some (.ok [some (v), some (.ref h.length), some (.str (st q.1)), some (.int (q.2 : Nat)), u4, u5] (h ++ [.lst (rs.map enR)])) := rfl
        rw [g1, wm_ok]
        by_cases c : q.1 ≠ [] ∧ 0 < q.2
        · obtain ⟨d, d1, d2, d3, d4, rw_⟩ := root_w c.1 q2
          have tl : (q.1.take d).length = d := by rw [List.length_take]; omega
          have hk : q.1.length / d * d = q.1.length := Nat.div_mul_cancel (Nat.dvd_of_mod_eq_zero d3)
          have hk0 : 0 < q.1.length / d := Nat.div_pos d2 (by omega)
          have hk1 : q.1.length / d < 2 ^ 60 := Nat.lt_of_le_of_lt (Nat.div_le_self _ _) (by omega)
          have e0 : rep (q.2 * (q.1.length / d)) (q.1.take d) = rep q.2 q.1 := by rw [rep_mul, ← d4]
          have sne : q.1.take d ≠ [] := fun z => by rw [z] at tl; simp at tl; omega
          have n1 : st q.1 ≠ "" := fun e => c.1 (st_inj.mp (e.trans st_empty))
          refine ws_ifT ?_ ?_
          · simp only [tAnM, tsb, x1, x2, xVar, xC, wm_bd, wm_ok, wm_pu, List.getElem?_cons_zero, List.getElem?_cons_succ, neSS, gtI]
            simp [n1, c.2, xVar, xC]
          refine ws_cutP (fun g h' => h' = h ++ [.lst (rs.map enR)] ∧ g = [some (v), some (.ref h.length), some (.str (st q.1)), some (.int (q.2 : Nat)), some (.str (st (q.1.take d))), u5]) (fun P kp => ?_) ?_
          · simp only [sSet, x1, xCons, x2, xVar, xNil, ws_bs, wm_bd, wm_ok, wm_pu, List.getElem?_cons_zero, List.getElem?_cons_succ, rw_, ws_nx]
            exact kp _ _ ⟨rfl, rfl⟩
          rintro _ _ ⟨rfl, rfl⟩
          refine ws_cutP (fun g h' => h' = h ++ [.lst (rs.map enR)] ∧ g = [some (v), some (.ref h.length), some (.str (st q.1)), some (.int (q.2 : Nat)), some (.str (st (q.1.take d))), some (.int ((q.2 * (q.1.length / d) : Nat) : Int))]) (fun P kp => ?_) ?_
          · simp only [sSet, x1, xCons, x2, xVar, xNil, ws_bs, wm_bd, wm_ok, wm_pu, List.getElem?_cons_zero, List.getElem?_cons_succ, len_st (show q.1.length ≤ 16000000 by omega), len_st (show (q.1.take d).length ≤ 16000000 by omega), tl, fdvN (show 0 < d by omega) (show d < 2 ^ 60 by omega), mulN hk1, ws_nx]
            exact kp _ _ ⟨rfl, rfl⟩
          rintro _ _ ⟨rfl, rfl⟩
          have step : ∀ (rs' : List (List Nat × Nat)) (m : Nat), (∀ r ∈ rs', r.1 ≠ [] ∧ 0 < r.2 ∧ LcA r.1 ∧ r.1.length ≤ 2000) → 0 < m → rs'.length ≤ i → txt rs' ++ rep m (q.1.take d) = txt (ps.take (i + 1)) → ∀ (P : Sg → Mh → Prop) (rt : MV → Mh → Prop) (bk ct : Sg → Mh → Prop) (ex : Exn → Sg → Mh → Prop), (∀ g h', (∃ rs, (∀ q ∈ rs, q.1 ≠ [] ∧ 0 < q.2 ∧ LcA q.1 ∧ q.1.length ≤ 2000) ∧ rs.length ≤ i + 1 ∧ txt rs = txt (ps.take (i + 1)) ∧ h' = h ++ [.lst (rs.map enR)] ∧ ∃ u2 u3 u4 u5, g = [some (v), some (.ref h.length), u2, u3, u4, u5]) → P g h') →
              Ws (sDrop (xBM "list" mAppend (xVar 1) (xCons (x1 mTup (xCons (xVar 4) (xCons (xVar 5) xNil))) xNil)) [some (v), some (.ref h.length), some (.str (st q.1)), some (.int (q.2 : Nat)), some (.str (st (q.1.take d))), some (.int (m : Int))] (h ++ [.lst (rs'.map enR)])) P rt bk ct ex := fun rs' m a1 a2 a3 a4 P rt bk ct ex kp => by
            have hn' : (h ++ [.lst (rs'.map enR)])[h.length]? = some (.lst (rs'.map enR)) := push_at
            have it : isTy "list" (.ref h.length) (h ++ [.lst (rs'.map enR)]) = true := by simp [isTy, lsv, hn']
            have ap : mAppend (.ref h.length) [enR (q.1.take d, m)] (h ++ [.lst (rs'.map enR)]) = some (.ok .non (h ++ [.lst ((rs' ++ [(q.1.take d, m)]).map enR)])) := by
              have lt : (rs'.map enR).length < sizeLine := by have := hp.few; rw [sizeLine_eq]; simp; omega
              simp only [mAppend, lstAt, hn', if_pos lt]
              rw [List.set_append_right _ _ (Nat.le_refl _), Nat.sub_self, List.set_cons_zero, List.map_append]
              rfl
            simp only [sDrop, xBM, x1, xCons, x2, xVar, xNil, ws_bs, wm_bd, wm_ok, wm_pu, List.getElem?_cons_zero, List.getElem?_cons_succ, it, if_true, wm_itf, tup1, List.length_cons, List.length_nil, Nat.reduceAdd, Nat.reduceLeDiff]
            rw [show (MV.tup [.str (st (q.1.take d)), .int (m : Int)]) = enR (q.1.take d, m) from rfl, ap, wm_ok, ws_nx]
            refine kp _ _ ⟨rs' ++ [(q.1.take d, m)], ?_, by simp; omega, by rw [txt_app, txt_one, a4], rfl, _, _, _, _, rfl⟩
            intro r hr
            rcases List.mem_append.mp hr with hr | hr
            · exact a1 r hr
            · rw [List.mem_singleton] at hr
              subst hr
              exact ⟨sne, a2, q1.take d, by rw [tl]; omega⟩
          have lca : ∀ q ∈ rs, LcA q.1 := fun r hr => (r1 r hr).2.2.1
          by_cases cm : ∃ rs0 b, rs = rs0 ++ [(q.1.take d, b)]
          · obtain ⟨rs0, b, rfl⟩ := cm
            have hb0 : 0 < b := (r1 (q.1.take d, b) (by simp)).2.1
            refine ws_cutP (fun g h' => h' = h ++ [.lst (rs0.map enR)] ∧ g = [some (v), some (.ref h.length), some (.str (st q.1)), some (.int (q.2 : Nat)), some (.str (st (q.1.take d))), some (.int ((q.2 * (q.1.length / d) + b : Nat) : Int))]) (fun P kp => ?_) ?_
            · refine ws_ifT ?_ ?_
              · have ln := fun (Q : MV → Mh → Prop) (E : Exn → Mh → Prop) => last_w (Q := Q) (E := E) (h := h ++ [.lst (rs0.map enR ++ [enR (q.1.take d, b)])]) (l := h.length) (rs := rs0) (q := (q.1.take d, b)) (by simp [push_at])
                simp only [tAnM, tsb, x1, x2, xVar, xC, xNil, wm_bd, wm_ok, wm_pu, List.getElem?_cons_zero, List.getElem?_cons_succ, lst1, List.length_nil, Nat.zero_le, ne_nil hn lca]
                simp [xVar, xC, neg1, ln, sub01.1]
              · have it : isTy "list" (.ref h.length) (h ++ [.lst ((rs0 ++ [(q.1.take d, b)]).map enR)]) = true := by simp only [isTy, lsv, hn]; rfl
                have sb := fun (h : Mh) (Q : MV → Mh → Prop) (E : Exn → Mh → Prop) => (sub01 (q := (q.1.take d, b))).2 h Q E
                simp only [sSet, xBM, x1, xCons, x2, xVar, xC, xNil, ws_bs, wm_bd, wm_ok, wm_pu, List.getElem?_cons_zero, List.getElem?_cons_succ, it, if_true, wm_itf, pop_w hn, sb, addI, ws_nx]
                refine kp _ _ ⟨?_, ?_⟩
                · rw [List.set_append_right _ _ (Nat.le_refl _), Nat.sub_self, List.set_cons_zero]
                · rw [Int.natCast_add]; rfl
            rintro _ _ ⟨rfl, rfl⟩
            refine step rs0 _ (fun r hr => r1 r (List.mem_append_left _ hr)) (by omega) (by simp at r2; omega) ?_ _ _ _ _ _ (fun g h' z => z)
            rw [Nat.add_comm, rep_add, e0, ht, ← r3, txt_app, txt_one, List.append_assoc]
          · refine ws_skip ?_ (step rs _ r1 (Nat.mul_pos c.2 hk0) r2 (by rw [e0, ht, r3]) _ _ _ _ _ (fun g h' z => z))
            simp only [tAnM, tsb, x1, x2, xVar, xC, xNil, wm_bd, wm_ok, wm_pu, List.getElem?_cons_zero, List.getElem?_cons_succ, lst1, List.length_nil, Nat.zero_le, ne_nil hn lca]
            by_cases rn : rs = []
            · simp [rn]
            · obtain ⟨rs0, r0, rfl⟩ : ∃ rs0 r0, rs = rs0 ++ [r0] := ⟨rs.dropLast, rs.getLast rn, (List.dropLast_concat_getLast rn).symm⟩
              have ln := fun (Q : MV → Mh → Prop) (E : Exn → Mh → Prop) => last_w (Q := Q) (E := E) (h := h ++ [.lst (rs0.map enR ++ [enR r0])]) (l := h.length) (rs := rs0) (q := r0) (by simp [push_at])
              have n5 : r0.1 ≠ q.1.take d := fun z => cm ⟨rs0, r0.2, by rw [← z]⟩
              simp [xVar, xC, neg1, ln, sub01.1, st_inj, n5]
        · refine ws_ifF ?_ ⟨rs, r1, by omega, ?_, rfl, _, _, _, _, rfl⟩
          · simp only [tAnM, tsb, x1, x2, xVar, xC, wm_bd, wm_ok, wm_pu, List.getElem?_cons_zero, List.getElem?_cons_succ, neSS, gtI]
            by_cases n1 : q.1 = []
            · simp [n1, st_empty, xVar, xC]
            · have n2 : q.2 = 0 := by
                by_cases z : q.2 = 0
                · exact z
                · exact absurd ⟨n1, by omega⟩ c
              have n3 : st q.1 ≠ "" := fun e => n1 (st_inj.mp (e.trans st_empty))
              simp [n2, n3, xVar, xC]
          · rw [ht, r3]
            have : rep q.2 q.1 = [] := by
              by_cases n1 : q.1 = []
              · rw [n1, rep_nil]
              · have n2 : q.2 = 0 := by
                  by_cases z : q.2 = 0
                  · exact z
                  · exact absurd ⟨n1, by omega⟩ c
                rw [n2, rep_zero]
            rw [this, List.append_nil]
      · rintro g h' ⟨rs, r1, r2, r3, rfl, q⟩
        rw [List.length_map, List.take_length] at r3
        exact kp _ _ ⟨rs, ⟨r1, by rw [List.length_map] at r2; have := hp.few; omega, by rw [r3]; exact hp.big⟩, r3, by rw [List.length_map] at r2; exact r2, rfl, q⟩
    rintro _ _ ⟨rs, r1, r2, r4, rfl, u2, u3, u4, u5, rfl⟩
    simp only [sRet, xVar, ws_bs, wm_ok, List.getElem?_cons_zero, List.getElem?_cons_succ, ws_rt]
    exact ⟨rs, r1, r2, r4, by first | rfl | trivial, by first | rfl | trivial⟩
  obtain ⟨x, h', e, rs, r1, r2, r4, rfl, rfl⟩ := w.out
  exact ⟨rs, r1, r2, r4, e⟩
end

end Lw
namespace Lw
open PySem PySem.Spec PyProof.Rows L2 Ob Mi StX
/-! ### what a Repeats is, asked -/
section
variable {h : Mh} {Q : MV → Mh → Prop} {E : Exn → Mh → Prop}
theorem isiV {x : MV} {n : String} {b : Bool} (e : mIsi n x h = some b) : Wm (mIsi2 [x, .raw (.ty n)] h) Q E = Q (.bl b) h := by
  simp [mIsi2, e]
theorem integer_w {n a b : Int} : Wm (F_is_integer [.int n, .int a, .int b] h) Q E = Q (.bl (decide (a ≤ n ∧ n ≤ b))) h := by
  have e1 : mIsi "int" (.int n) h = some true := rfl
  have e2 : mIsi "bool" (.int n) h = some false := rfl
  unfold F_is_integer
  rw [wm_fn]
  simp [B_is_integer, sSet, sRet, sRetN, sNop, sDrop, sPar, sPar3, sAsg, sBrk, sCnt, sAug, sSto, sFldM, sDel, sAsg2, x1, x2, xVar, xC, xIf, xAnd, xOr, xNil, xCons, tsb, tst, tAnM, tOrM, tNoM, xBM, xMeth, xChain, xLc, gNm, gTp, gCn, gNl, cNm, cTp, cYes, setL, wipM, isiV e1, isiV e2, mNot, truM]
  by_cases c : a ≤ n
  · simp [c, xVar]
  · simp [c]
theorem comp_mapG {xs : List MV} {it : MIt} {T : CT} {C : Sg → M Bool} {F : Sg → M MV} {g : Sg} {Q : List MV → Mh → Prop} (f : MV → MV) (hit : ∀ i, it i h = some xs[i]?) (hl : xs.length < 16000000)
    (step : ∀ x ∈ xs, ∃ g1, T x g = some g1 ∧ Wm (C g1 h) (fun k h1 => k = true ∧ h1 = h) NE ∧ Wm (F g1 h) (fun y h2 => y = f x ∧ h2 = h) NE) (k : Q (xs.map f) h) : Wm (compN FUEL it T C F g 0 [] h) Q E := by
  refine comp_invG (xs := xs) (fun i acc h2 => acc = (xs.take i).map f ∧ h2 = h) (fun i acc h2 ⟨_, e⟩ => by rw [e]; exact hit i) hl ⟨rfl, rfl⟩ ?_ ?_
  · rintro i x acc h2 e ⟨rfl, rfl⟩
    obtain ⟨g1, e1, e2, e3⟩ := step x (List.mem_of_getElem? e)
    refine ⟨g1, e1, e2.mono ?_ (fun _ _ z => z)⟩
    rintro k h1 ⟨rfl, rfl⟩
    rw [if_pos rfl]
    refine e3.mono ?_ (fun _ _ z => z)
    rintro y h2 ⟨rfl, rfl⟩
    have hi : i < xs.length := (List.getElem?_eq_some_iff.mp e).1
    refine ⟨?_, rfl⟩
    rw [List.take_succ_eq_append_getElem hi, List.map_append, (List.getElem?_eq_some_iff.mp e).2]
    rfl
  · rintro acc h2 ⟨rfl, rfl⟩
    rw [List.take_length]
    exact k
/-- a Repeats, its runs -/
structure RepAt (h : Mh) (v : MV) (rs : List (List Nat × Nat)) : Prop where
  ex : ∃ r l, v = .ref r ∧ h[r]? = some (.ins "Repeats" [("runs", .ref l)]) ∧ h[l]? = some (.lst (rs.map enR))
  ok : RunsOk rs
theorem RepAt.old {v : MV} {rs : List (List Nat × Nat)} {h' : Mh} (m : RepAt h v rs) (k : ∀ j, j < h.length → h'[j]? = h[j]?) : RepAt h' v rs := by
  obtain ⟨⟨r, l, e1, e2, e3⟩, ok⟩ := m
  exact ⟨⟨r, l, e1, by rw [k r (at_lt e2)]; exact e2, by rw [k l (at_lt e3)]; exact e3⟩, ok⟩
theorem RepAt.kp {v : MV} {rs : List (List Nat × Nat)} {h' : Mh} {b : Nat} (m : RepAt h v rs) (hb : Bg h b) (k : Kp b h h') : RepAt h' v rs := by
  obtain ⟨⟨r, l, e1, e2, e3⟩, ok⟩ := m
  obtain ⟨g, r0, c, eb, _⟩ := hb
  have n1 : r ≠ b := fun q => by rw [q, eb] at e2; cases e2
  have n2 : l ≠ b := fun q => by
    rw [q, eb] at e3
    cases rs with
    | nil => cases e3
    | cons q rs => cases e3
  exact ⟨⟨r, l, e1, k.keep r _ n1 e2, k.keep l _ n2 e3⟩, ok⟩
theorem RepAt.fld {v : MV} {rs : List (List Nat × Nat)} (m : RepAt h v rs) : ∃ l, h[l]? = some (.lst (rs.map enR)) ∧ mFld ["Repeats"] "runs" v h = some (.ok (.ref l) h) := by
  obtain ⟨⟨r, l, rfl, e2, e3⟩, ok⟩ := m
  have ia : insAt (.ref r) h = some (Str.ofString "Repeats", ([("runs", .ref l)] : List (Str × MV))) := by simp [insAt, e2]
  refine ⟨l, e3, ?_⟩
  unfold mFld
  rw [ia]
  rfl
theorem RepAt.ins {v : MV} {rs : List (List Nat × Nat)} (m : RepAt h v rs) : ∃ gs, insAt v h = some (Str.ofString "Repeats", gs) := by
  obtain ⟨⟨r, l, rfl, e2, e3⟩, ok⟩ := m
  exact ⟨[("runs", .ref l)], by simp only [insAt, e2]⟩
theorem intsOf_map (l : List Int) : intsOf (l.map MV.int) = some l := by
  induction l with
  | nil => rfl
  | cons a l ih =>
    show (intsOf (l.map MV.int)).map (a :: ·) = _
    rw [ih]; rfl
theorem sum_w {l : List Int} : Wm (mSum [.tl (l.map .int)] h) Q E = Q (.int l.sum) h := by
  have e : mSum [.tl (l.map .int)] h = some (.ok (.int l.sum) h) := by
    unfold mSum
    simp only [lsv, intsOf_map, Option.map_some]
  rw [e, wm_ok]
/-- what is told of each run -/
def runM (f : List Nat × Nat → MV) (x : MV) : MV := match x with
  | .tup [.str p, .int n] => f (p.cps.toList, n.toNat)
  | _ => .non
theorem runM_en (f : List Nat × Nat → MV) (q : List Nat × Nat) : runM f (enR q) = f q := by
  show f ((st q.1).cps.toList, ((q.2 : Nat) : Int).toNat) = _
  rw [st_list, Int.toNat_natCast]
theorem runs_map (f : List Nat × Nat → MV) (rs : List (List Nat × Nat)) : (rs.map enR).map (runM f) = rs.map f := by
  rw [List.map_map]
  exact List.map_congr_left fun q _ => runM_en f q
theorem len_sum : ∀ rs : List (List Nat × Nat), (rs.map fun q => ((q.1.length * q.2 : Nat) : Int)).sum = ((txt rs).length : Nat)
  | [] => rfl
  | q :: rs => by
    rw [List.map_cons, List.sum_cons, len_sum rs, txt_cons, List.length_append, rep_len, Nat.mul_comm]
    omega
/-- a comprehension over the runs -/
theorem runs_comp {v : MV} {rs : List (List Nat × Nat)} {g : Sg} {T : CT} {F : Sg → M MV} {vs : List Nat} {i : Nat} (m : RepAt h v rs) (hg : g[i]? = some (some v)) (f : List Nat × Nat → MV)
    (step : ∀ q ∈ rs, ∃ g1, T (enR q) (wipM g vs) = some g1 ∧ Wm (F g1 h) (fun y h2 => y = f q ∧ h2 = h) NE) {Q : MV → Mh → Prop} (k : Q (.tl (rs.map f)) h) : Wm (xLc false (x1 iAny (x1 (mFld ["Repeats"] "runs") (xVar i))) T cYes F vs g h) Q E := by
  obtain ⟨l, e3, ef⟩ := m.fld
  have tl : ∀ (l : List MV) (Q : MV → Mh → Prop) (E : Exn → Mh → Prop), Wm (mkl false l h) Q E = Q (.tl l) h := fun _ _ _ => rfl
  simp only [xLc, x1, xVar, hg, wm_bd, wm_ok, ef, iterH e3]
  refine comp_mapG (xs := rs.map enR) (runM f) (fun i => itH_at e3) (by have := m.ok.few; simp; omega) (fun x hx => ?_) ?_
  · obtain ⟨q, hq, rfl⟩ := List.mem_map.mp hx
    obtain ⟨g1, e1, e2⟩ := step q hq
    exact ⟨g1, e1, ⟨rfl, rfl⟩, by rw [runM_en]; exact e2⟩
  · rw [tl, runs_map]
    exact k
theorem length_e {v : MV} {rs : List (List Nat × Nat)} (m : RepAt h v rs) : F_Repeats_length [v] h = some (.ok (.int ((txt rs).length : Nat)) h) := by
  refine wm_eq ?_
  unfold F_Repeats_length
  rw [wm_fn]
  refine ⟨rfl, ?_⟩
  unfold B_Repeats_length
  simp only [sRet, ws_bs, x1, xCons, x2, xNil, wm_bd]
  refine runs_comp m rfl (fun q => .int ((q.1.length * q.2 : Nat) : Int)) (fun q hq => ?_) ?_
  · have hz := (m.ok.el q hq).2.2.2
    refine ⟨_, rfl, ?_⟩
    simp only [xVar, wm_bd, wm_ok, wm_pu, x1, xCons, x2, xNil, setL, wipM, List.length_cons, List.length_nil, Nat.reduceSub, List.set_cons_zero, List.set_cons_succ, List.getElem?_cons_zero, List.getElem?_cons_succ, List.replicate, List.map_cons, List.map_nil, List.cons_append, List.nil_append, len_st (show q.1.length ≤ 16000000 by omega), mulN' (show q.1.length < 2 ^ 60 by omega)]
    exact ⟨by first | rfl | trivial, by first | rfl | trivial⟩
  · simp only [wm_ok, wm_pu, wm_bd]
    rw [show (rs.map fun q => MV.int ((q.1.length * q.2 : Nat) : Int)) = (rs.map fun q => ((q.1.length * q.2 : Nat) : Int)).map .int by rw [List.map_map]; rfl, sum_w, len_sum, ws_rt]
    exact ⟨rfl, rfl⟩
theorem length_w {v : MV} {rs : List (List Nat × Nat)} (m : RepAt h v rs) : Wm (mPrp "Repeats" F_Repeats_length v h) Q E = Q (.int ((txt rs).length : Nat)) h := by
  obtain ⟨gs, ia⟩ := m.ins
  have e : mPrp "Repeats" F_Repeats_length v h = some (.ok (.int ((txt rs).length : Nat)) h) := by
    simp only [mPrp, ia, length_e m, if_true]
  rw [e, wm_ok]
end

end Lw
namespace Lw
open PySem PySem.Spec PyProof.Rows L2 Ob Mi StX
/-! ### items, text, counts of a Repeats -/
theorem txt_split {rs : List (List Nat × Nat)} {k : Nat} {q : List Nat × Nat} (hk : rs[k]? = some q) : txt rs = txt (rs.take k) ++ (rep q.2 q.1 ++ txt (rs.drop (k + 1))) := by
  obtain ⟨hi, e⟩ := List.getElem?_eq_some_iff.mp hk
  have : rs = rs.take k ++ q :: rs.drop (k + 1) := by rw [← e, List.getElem_cons_drop, List.take_append_drop]
  have t : txt (rs.take k ++ q :: rs.drop (k + 1)) = txt (rs.take k) ++ (rep q.2 q.1 ++ txt (rs.drop (k + 1))) := by rw [txt_app, txt_cons]
  rw [← this] at t
  exact t
theorem txt_at {rs : List (List Nat × Nat)} {k i : Nat} {q : List Nat × Nat} (hk : rs[k]? = some q) (h0 : (txt (rs.take k)).length ≤ i) (h1 : i < (txt (rs.take k)).length + q.1.length * q.2) : (txt rs)[i]? = q.1[(i - (txt (rs.take k)).length) % q.1.length]? := by
  rw [txt_split hk, List.getElem?_append_right h0, List.getElem?_append_left (by rw [rep_len, Nat.mul_comm]; omega), rep_get (by rw [Nat.mul_comm]; omega)]
theorem txt_take {rs : List (List Nat × Nat)} {k : Nat} {q : List Nat × Nat} (hk : rs[k]? = some q) : (txt (rs.take (k + 1))).length = (txt (rs.take k)).length + q.1.length * q.2 := by
  obtain ⟨hi, e⟩ := List.getElem?_eq_some_iff.mp hk
  rw [List.take_succ_eq_append_getElem hi, txt_app, e, txt_one, List.length_append, rep_len, Nat.mul_comm]
theorem join_cps (s y : Str) (ys : List Str) : (Txt.join s (y :: ys)).cps.toList = y.cps.toList ++ (ys.map fun p => s.cps.toList ++ p.cps.toList).flatten := by
  have key : ∀ (ys : List Str) (a : Array Nat), (ys.foldl (fun acc p => acc ++ s.cps ++ p.cps) a).toList = a.toList ++ (ys.map fun p => s.cps.toList ++ p.cps.toList).flatten := by
    intro ys
    induction ys with
    | nil => intro a; simp
    | cons z zs ih =>
      intro a
      rw [List.foldl_cons, ih]
      simp
  exact key ys y.cps
theorem join_nil (s : Str) : (Txt.join s []).cps.toList = [] := rfl
theorem join_st : ∀ l : List (List Nat), Txt.join "" (l.map st) = st l.flatten
  | [] => rfl
  | p :: l => by
    refine str_ext ?_
    rw [List.map_cons, join_cps, st_list, st_list, List.flatten_cons]
    congr 1
    rw [List.map_map]
    congr 1
    refine List.map_id'' (fun p => ?_) l |>.symm ▸ ?_
    · rfl
    · rfl
section
variable {h : Mh} {Q : MV → Mh → Prop} {E : Exn → Mh → Prop}
theorem sub_st {p : List Nat} {j c : Nat} (e : p[j]? = some c) (hz : p.length ≤ 16000000) : Wm (mSub2 (.str (st p)) (.int (j : Nat)) h) Q E = Q (.str ⟨#[c]⟩) h := by
  obtain ⟨hj, e⟩ := List.getElem?_eq_some_iff.mp e
  rw [subS (by rw [st_size, sizeLine_eq]; omega) (by rw [st_size]; exact hj)]
  have : (st p).cps[j]'(by rw [st_size]; exact hj) = c := by simpa [st] using e
  rw [this]
theorem mul_str (p : List Nat) (n : Nat) : Txt.mul (st p) ((n : Nat) : Int) = st (rep n p) := str_ext (by rw [mul_cps, st_list, st_list]; rfl)
theorem mul_st {p : List Nat} {n : Nat} {b : Bool} (hn : n ≤ 1000) (hz : p.length ≤ 10000) : Wm (mMul b (.str (st p)) (.int (n : Nat)) h) Q E = Q (.str (st (rep n p))) h := by
  have e : mMul b (.str (st p)) (.int (n : Nat)) h = some (.ok (.str (Txt.mul (st p) (n : Nat))) h) := if_pos ⟨by omega, .inl ⟨by omega, by show (st p).cps.size ≤ _; rw [st_size]; exact hz⟩⟩
  rw [e, wm_ok, mul_str]
theorem mul_st2 {p : List Nat} {n : Nat} {b : Bool} (hn : n ≤ 5000) (hz : p.length ≤ 3000) : Wm (mMul b (.str (st p)) (.int (n : Nat)) h) Q E = Q (.str (st (rep n p))) h := by
  have e : mMul b (.str (st p)) (.int (n : Nat)) h = some (.ok (.str (Txt.mul (st p) (n : Nat))) h) := if_pos ⟨by omega, .inr ⟨by omega, by show (st p).cps.size ≤ _; rw [st_size]; exact hz⟩⟩
  rw [e, wm_ok, mul_str]
end

end Lw
namespace Lw
open PySem PySem.Spec PyProof.Rows L2 Ob Mi StX
section
variable {h : Mh} {Q : MV → Mh → Prop} {E : Exn → Mh → Prop}
theorem getitem_e {v : MV} {rs : List (List Nat × Nat)} (m : RepAt h v rs) {i c : Nat} (hc : (txt rs)[i]? = some c) : F_Repeats___getitem__ [v, .int (i : Nat)] h = some (.ok (.str ⟨#[c]⟩) h) := by
  have hi : i < (txt rs).length := (List.getElem?_eq_some_iff.mp hc).1
  obtain ⟨l, e3, ef⟩ := m.fld
  refine wm_eq ?_
  unfold F_Repeats___getitem__
  rw [wm_fn]
  refine ⟨rfl, ?_⟩
  unfold B_Repeats___getitem__
  refine ws_skip ?_ ?_
  · simp only [tNoM, tst, x1, xCons, x2, xVar, xC, xNil, wm_bd, wm_ok, wm_pu, List.replicate, List.map_cons, List.map_nil, List.cons_append, List.nil_append, List.getElem?_cons_zero, List.getElem?_cons_succ, length_w m, subI, integer_w, truM, Option.map_some]
    have : (0 : Int) ≤ (i : Int) ∧ (i : Int) ≤ ((txt rs).length : Nat) - 1 := by omega
    simp [this]
  refine ws_cutP (fun g h' => h' = h ∧ g = [some (v), some (.int (i : Nat)), some (.int 0), none, none]) (fun P kp => ?_) ?_
  · simp only [sSet, xC, ws_bs, wm_ok, ws_nx]
    exact kp _ _ ⟨rfl, rfl⟩
  rintro _ h ⟨rfl, rfl⟩
  rw [ws_seq, ws_for]
  simp only [x1, xVar, wm_bd, wm_ok, List.getElem?_cons_zero, ef, iterH e3]
  refine for_invG (xs := rs.map enR) (fun k g h'' => h'' = h ∧ (txt (rs.take k)).length ≤ i ∧ ∃ u3 u4, g = [some (v), some (.int (i : Nat)), some (.int ((txt (rs.take k)).length : Nat)), u3, u4]) (fun k g h'' ⟨e, _⟩ => by rw [e]; exact itH_at e3) (by have := m.ok.few; simp; omega) ⟨rfl, Nat.zero_le _, _, _, rfl⟩ ?_ ?_
  · rintro k x g h ex ⟨rfl, hk, u3, u4, rfl⟩
    rw [List.getElem?_map] at ex
    obtain ⟨q, eq, rfl⟩ := Option.map_eq_some_iff.mp ex
    obtain ⟨q1, q2, q3, q4⟩ := m.ok.el q (List.mem_of_getElem? eq)
    have g1 : gTp 2 (gCn (gNm 3) (gCn (gNm 4) gNl)) (enR q) [some (v), some (.int (i : Nat)), some (.int ((txt (rs.take k)).length : Nat)), u3, u4] h = some (.ok [some (v), some (.int (i : Nat)), some (.int ((txt (rs.take k)).length : Nat)), some (.str (st q.1)), some (.int (q.2 : Nat))] h) := rfl
    rw [g1, wm_ok]
    have hl : q.1.length < 2 ^ 60 := by omega
    have lz : q.1.length ≤ 16000000 := by omega
    have l0 : 0 < q.1.length := List.length_pos_iff.mpr q1
    by_cases c1 : i < (txt (rs.take k)).length + q.1.length * q.2
    · rw [ws_seq]
      refine ws_ifT ?_ ?_
      · simp only [tsb, x1, x2, xCons, xVar, xNil, wm_bd, wm_ok, wm_pu, List.getElem?_cons_zero, List.getElem?_cons_succ, len_st lz, mulN' hl, addI, ltI]
        have this : (i : Int) < ((txt (rs.take k)).length : Nat) + ((q.1.length * q.2 : Nat) : Int) := by omega
        rw [Int.natCast_mul] at this
        simp [this]
      · simp only [sRet, ws_bs, x1, x2, xCons, xVar, xNil, wm_bd, wm_ok, wm_pu, List.getElem?_cons_zero, List.getElem?_cons_succ, len_st lz, subI]
        rw [show ((i : Int) - ((txt (rs.take k)).length : Nat)) = ((i - (txt (rs.take k)).length : Nat) : Int) by omega, mod_of l0]
        rw [sub_st (by rw [← txt_at eq hk c1]; exact hc) lz, ws_rt]
        exact ⟨rfl, rfl⟩
    · refine ws_skip ?_ ?_
      · simp only [tsb, x1, x2, xCons, xVar, xNil, wm_bd, wm_ok, wm_pu, List.getElem?_cons_zero, List.getElem?_cons_succ, len_st lz, mulN' hl, addI, ltI]
        have this : ¬ ((i : Int) < ((txt (rs.take k)).length : Nat) + ((q.1.length * q.2 : Nat) : Int)) := by omega
        rw [Int.natCast_mul] at this
        simp
        exact Int.not_lt.mp this
      · simp only [sSet, x1, x2, xCons, xVar, xNil, ws_bs, wm_bd, wm_ok, wm_pu, List.getElem?_cons_zero, List.getElem?_cons_succ, len_st lz, mulN' hl, addI, ws_nx]
        refine ⟨by first | rfl | trivial, by rw [txt_take eq]; omega, some (.str (st q.1)), some (.int (q.2 : Nat)), ?_⟩
        rw [txt_take eq, Int.natCast_add]
        rfl
  · rintro g h ⟨rfl, hk, _⟩
    rw [List.length_map, List.take_length] at hk
    omega
theorem getitem_w {v : MV} {rs : List (List Nat × Nat)} (m : RepAt h v rs) {i c : Nat} (hc : (txt rs)[i]? = some c) : Wm (mOwn2 "Repeats" bInt F_Repeats___getitem__ v (.int (i : Nat)) h) Q E = Q (.str ⟨#[c]⟩) h := by
  obtain ⟨gs, ia⟩ := m.ins
  have e : mOwn2 "Repeats" bInt F_Repeats___getitem__ v (.int (i : Nat)) h = some (.ok (.str ⟨#[c]⟩) h) := by
    simp only [mOwn2, ia, getitem_e m hc, bInt, and_self, if_true]
  rw [e, wm_ok]
end

end Lw
namespace Lw
open PySem PySem.Spec PyProof.Rows L2 Ob Mi StX
/-! ### text, counts, truth, notation of a Repeats -/
theorem cnt_is (c : Nat) : ∀ l : List Nat, PyProof.Rows.cnt c l = (l.count c : Nat)
  | [] => rfl
  | n :: r => by
    rw [PyProof.Rows.cnt_cons, cnt_is c r, List.count_cons]
    by_cases h : n = c <;> simp [h] <;> omega
theorem count_st (p : List Nat) (c : Nat) : Txt.count (st p) ⟨#[c]⟩ = (p.count c : Nat) := by
  rw [PyProof.Rows.count_is, st_list]
  exact cnt_is c p
theorem cnt_sum (c : Nat) : ∀ rs : List (List Nat × Nat), (rs.map fun q => ((q.1.count c * q.2 : Nat) : Int)).sum = ((txt rs).count c : Nat)
  | [] => rfl
  | q :: rs => by
    rw [List.map_cons, List.sum_cons, cnt_sum c rs, txt_cons, List.count_append, rep_count, Nat.mul_comm]
    omega
theorem txt_mem {c : Nat} : ∀ {rs : List (List Nat × Nat)}, (∀ q ∈ rs, 0 < q.2) → (c ∈ txt rs ↔ ∃ q ∈ rs, c ∈ q.1)
  | [], _ => by simp [txt_nil]
  | q :: rs, h => by
    have r1 : c ∈ rep q.2 q.1 ↔ c ∈ q.1 := ⟨rep_mem, fun z => by
      have := h q (List.mem_cons_self ..)
      obtain ⟨n, hn⟩ : ∃ n, q.2 = n + 1 := ⟨q.2 - 1, by omega⟩
      rw [hn, rep_succ]
      exact List.mem_append_left _ z⟩
    rw [txt_cons, List.mem_append, r1, txt_mem fun r hr => h r (List.mem_cons_of_mem _ hr)]
    simp
theorem txt_lc {rs : List (List Nat × Nat)} (h : ∀ q ∈ rs, LcA q.1) : LcA (txt rs) := by
  induction rs with
  | nil => intro c hc; cases hc
  | cons q rs ih =>
    intro c hc
    rw [txt_cons] at hc
    rcases List.mem_append.mp hc with hc | hc
    · exact h q (List.mem_cons_self ..) c (rep_mem hc)
    · exact ih (fun r hr => h r (List.mem_cons_of_mem _ hr)) c hc
def numS (n : Nat) : Str := toString (n : Int)
def shownR (n : Nat) : Str := "Repeats(" ++ numS n ++ ")"
theorem num_sz {n : Nat} (hn : n < 2 ^ 400) : (numS n).cps.size ≤ 130 := by
  have e10 : (2 : Nat) ^ 400 < 10 ^ 129 := by decide +kernel
  have e := PySem.int_text_length_le10 (a := (n : Int)) (k := 129) (by decide) (by omega)
  have e2 : (Str.ofString (toString (n : Int))).length = (toString (n : Int)).length := PySem.ofString_length _
  show (Str.ofString (toString (n : Int))).length ≤ 130
  omega
theorem log400 {n : Nat} (hn : n < 2 ^ 400) : ((n : Int)).natAbs.log2 < 1920 := by
  by_cases z : (n : Int).natAbs = 0
  · rw [z]; decide
  · have := (Nat.log2_lt z).mpr (show (n : Int).natAbs < 2 ^ 400 by omega)
    omega
section
variable {h : Mh} {Q : MV → Mh → Prop} {E : Exn → Mh → Prop}
theorem js3 {A B C : Sg → M MV} {g : Sg} {a b c : Str} (ha : A g h = some (.ok (.str a) h)) (hb : B g h = some (.ok (.str b) h)) (hc : C g h = some (.ok (.str c) h)) (hz : a.cps.size + b.cps.size + c.cps.size ≤ 10000) : Wm (xJs [A, B, C] Str.empty g h) Q E = Q (.str (a ++ b ++ c)) h := by
  have z : ∀ w : Str, w.cps.size ≤ 10000 → w.length ≤ sizeLine := fun w hw => by rw [sizeLine_eq]; show w.cps.size ≤ _; omega
  have e0 : Str.empty ++ a = a := str_ext (by rw [app_cps]; rfl)
  have s1 := app_size a b
  have s2 := app_size (a ++ b) c
  have e : xJs [A, B, C] Str.empty g h = some (.ok (.str (a ++ b ++ c)) h) := by
    simp only [xJs, bd, ha, hb, hc, e0, pu]
    rw [if_pos (z a (by omega)), if_pos (z _ (by omega)), if_pos (z _ (by omega))]
  rw [e, wm_ok]
theorem anyB {bs : List Bool} : Wm (mAny [.tl (bs.map .bl)] h) Q E = Q (.bl (bs.any id)) h := by
  have e : mAny [.tl (bs.map .bl)] h = some (.ok (.bl (bs.any id)) h) := by
    unfold mAny
    simp only [lsv, boolsOf_map, Option.map_some]
  rw [e, wm_ok]
theorem inC {c : Nat} {p : List Nat} : Wm (mIn2 false (.str ⟨#[c]⟩) (.str (st p)) h) Q E = Q (.bl (decide (c ∈ p))) h := by
  have : (st p).cps.toList = p := st_list p
  show Q (.bl (decide (c ∈ (st p).cps.toList))) h = _
  rw [this]
end

end Lw
namespace Lw
open PySem PySem.Spec PyProof.Rows L2 Ob Mi StX
section
variable {h : Mh} {Q : MV → Mh → Prop} {E : Exn → Mh → Prop}
theorem bool_w {v : MV} {rs : List (List Nat × Nat)} (m : RepAt h v rs) : Wm (mOwn1 "Repeats" bBl F_Repeats___bool__ [v] h) Q E = Q (.bl (decide (txt rs ≠ []))) h := by
  obtain ⟨gs, ia⟩ := m.ins
  obtain ⟨l, e3, ef⟩ := m.fld
  have ne : (txt rs ≠ []) ↔ 0 < rs.length := by
    constructor
    · intro z
      cases rs with
      | nil => exact absurd rfl z
      | cons _ _ => simp
    · intro z
      exact txt_pos (fun q hq => ⟨(m.ok.el q hq).1, (m.ok.el q hq).2.1⟩) (List.length_pos_iff.mp z)
  have e : F_Repeats___bool__ [v] h = some (.ok (.bl (decide (txt rs ≠ []))) h) := by
    refine wm_eq ?_
    unfold F_Repeats___bool__
    rw [wm_fn]
    refine ⟨rfl, ?_⟩
    unfold B_Repeats___bool__
    have ln : mLen [.ref l] h = some (.ok (.int (rs.length : Nat)) h) := by simp [mLen, seqv, tpv, lsv, e3]
    simp only [sRet, ws_bs, x1, x2, xCons, xVar, xC, xNil, wm_bd, wm_ok, wm_pu, List.replicate, List.map_cons, List.map_nil, List.cons_append, List.nil_append, List.getElem?_cons_zero, ef, ln, gtI, ws_rt]
    refine ⟨?_, by first | rfl | trivial⟩
    congr 1
    rw [decide_eq_decide, ne]
    omega
  have e2 : mOwn1 "Repeats" bBl F_Repeats___bool__ [v] h = some (.ok (.bl (decide (txt rs ≠ []))) h) := by
    simp only [mOwn1, ia, e, bBl, if_true]
  rw [e2, wm_ok]
end

end Lw
namespace Lw
open PySem PySem.Spec PyProof.Rows L2 Ob Mi StX
section
variable {h : Mh} {Q : MV → Mh → Prop} {E : Exn → Mh → Prop}
theorem count_e {v : MV} {rs : List (List Nat × Nat)} (m : RepAt h v rs) (c : Nat) : F_Repeats_count [v, .str ⟨#[c]⟩] h = some (.ok (.int ((txt rs).count c : Nat)) h) := by
  refine wm_eq ?_
  unfold F_Repeats_count
  rw [wm_fn]
  refine ⟨rfl, ?_⟩
  unfold B_Repeats_count
  simp only [sRet, ws_bs, x1, xCons, x2, xNil, wm_bd]
  refine runs_comp m rfl (fun q => .int ((q.1.count c * q.2 : Nat) : Int)) (fun q hq => ?_) ?_
  · have hz := (m.ok.el q hq).2.2.2
    have hc : q.1.count c < 2 ^ 60 := Nat.lt_of_le_of_lt (List.count_le_length) (by omega)
    have ty : ∀ (z : Str) (h : Mh), isTy "str" (.str z) h = true := fun _ _ => rfl
    have ct : ∀ h, (mStr1 fun a b => .int (Txt.count a b)) (.str (st q.1)) [.str ⟨#[c]⟩] h = some (.ok (.int (q.1.count c : Nat)) h) := fun h => by
      show some (Rs.ok (MV.int (Txt.count (st q.1) ⟨#[c]⟩)) h) = _
      rw [count_st]
    refine ⟨_, rfl, ?_⟩
    simp only [xBM, x1, xCons, x2, xVar, xNil, wm_bd, wm_ok, wm_pu, setL, wipM, List.length_cons, List.length_nil, Nat.reduceSub, List.set_cons_zero, List.set_cons_succ, List.getElem?_cons_zero, List.getElem?_cons_succ, List.replicate, List.map_cons, List.map_nil, List.cons_append, List.nil_append, ty, if_true, wm_itf, ct, mulN' hc]
    exact ⟨by first | rfl | trivial, by first | rfl | trivial⟩
  · simp only [wm_ok, wm_pu, wm_bd]
    rw [show (rs.map fun q => MV.int ((q.1.count c * q.2 : Nat) : Int)) = (rs.map fun q => ((q.1.count c * q.2 : Nat) : Int)).map .int by rw [List.map_map]; rfl, sum_w, cnt_sum, ws_rt]
    exact ⟨rfl, rfl⟩
end

end Lw
namespace Lw
open PySem PySem.Spec PyProof.Rows L2 Ob Mi StX
/-! ### making, parts -/
theorem drop_rep_take {p : List Nat} {n x : Nat} (hx : x ≤ n * p.length) (hp : 0 < p.length) : (rep n p).take x = rep (x / p.length) p ++ p.take (x % p.length) := by
  have hd : x / p.length * p.length + x % p.length = x := by rw [Nat.mul_comm]; exact Nat.div_add_mod x p.length
  have hm := Nat.mod_lt x hp
  have hle : x / p.length ≤ n := Nat.div_le_of_le_mul (by rw [Nat.mul_comm]; exact hx)
  obtain ⟨k, rfl⟩ : ∃ k, n = x / p.length + k := ⟨n - x / p.length, by omega⟩
  rw [rep_add, List.take_append, rep_len, List.take_of_length_le (by rw [rep_len]; omega)]
  congr 1
  rw [show x - x / p.length * p.length = x % p.length by omega]
  cases k with
  | zero =>
    have : x % p.length = 0 := by
      rw [Nat.add_zero] at hx
      omega
    rw [this, List.take_zero, List.take_zero]
  | succ k =>
    rw [rep_succ, List.take_append_of_le_length (by omega)]
theorem seg_of {x y z : List Nat} (h : x ++ y = z) : z.drop x.length = y := by rw [← h, List.drop_left]
/-- the pairs of a part of a repeated text -/
def cutP (p : List Nat) (b e : Nat) : List (List Nat × Nat) :=
  if b / p.length = e / p.length then [((p.drop (b % p.length)).take (e % p.length - b % p.length), 1)]
  else [(p.drop (b % p.length), 1), (p, e / p.length - b / p.length - 1), (p.take (e % p.length), 1)]
theorem cutP_txt {p : List Nat} {n b e : Nat} (hp : 0 < p.length) (hb : b ≤ e) (he : e ≤ n * p.length) : txt (cutP p b e) = ((rep n p).take e).drop b := by
  have t1 := drop_rep_take he hp
  have t2 := drop_rep_take (Nat.le_trans hb he) hp
  have lb : ((rep n p).take b).length = b := by rw [List.length_take, rep_len]; omega
  have m1 := Nat.mod_lt b hp
  have m2 := Nat.mod_lt e hp
  have hdiv : b / p.length ≤ e / p.length := Nat.div_le_div_right hb
  have key : (rep n p).take b ++ txt (cutP p b e) = (rep n p).take e := by
    rw [t1, t2]
    unfold cutP
    by_cases c : b / p.length = e / p.length
    · rw [if_pos c, txt_one, rep_one, ← c, List.append_assoc]
      congr 1
      have hr : b % p.length ≤ e % p.length := by
        have h1 := Nat.div_add_mod b p.length
        have h2 := Nat.div_add_mod e p.length
        rw [c] at h1
        omega
      have : p.take (e % p.length) = p.take (b % p.length) ++ (p.take (e % p.length)).drop (b % p.length) := by
        have := List.take_append_drop (b % p.length) (p.take (e % p.length))
        rw [List.take_take, Nat.min_eq_left hr] at this
        exact this.symm
      rw [this, List.drop_take]
    · rw [if_neg c, txt_cons, txt_cons, txt_one, rep_one, rep_one]
      obtain ⟨k, hk⟩ : ∃ k, e / p.length = b / p.length + (k + 1) := ⟨e / p.length - b / p.length - 1, by omega⟩
      rw [hk, show b / p.length + (k + 1) - b / p.length - 1 = k by omega, rep_add, rep_succ]
      have := List.take_append_drop (b % p.length) p
      simp only [List.append_assoc]
      congr 1
      rw [← List.append_assoc (p.take _), this]
  have := seg_of key
  rw [lb] at this
  exact this.symm
theorem cutP_ok {p : List Nat} {b e : Nat} (lc : LcA p) (hz : p.length ≤ 2000) : (∀ q ∈ cutP p b e, LcA q.1 ∧ q.1.length ≤ 2000) ∧ (cutP p b e).length ≤ 3 := by
  unfold cutP
  split
  · refine ⟨fun q hq => ?_, by simp⟩
    rw [List.mem_singleton] at hq
    subst hq
    exact ⟨(lc.drop _).take _, by simp; omega⟩
  · refine ⟨fun q hq => ?_, by simp⟩
    simp only [List.mem_cons, List.not_mem_nil, or_false] at hq
    rcases hq with rfl | rfl | rfl
    · exact ⟨lc.drop _, by simp; omega⟩
    · exact ⟨lc, hz⟩
    · exact ⟨lc.take _, by simp; omega⟩
section
variable {h : Mh} {Q : MV → Mh → Prop} {E : Exn → Mh → Prop}
theorem runs_make {v : MV} {ps : List (List Nat × Nat)} (hs : IsSq h v (ps.map enR)) (hp : PairsOk ps) : ∃ rs, RunsOk rs ∧ txt rs = txt ps ∧ rs.length ≤ ps.length ∧ mMake "Runs" F_Runs___init__ [v] h = some (.ok (.ref h.length) (h ++ [.ins "Runs" [("tidied", .ref (h.length + 1))], .lst (rs.map enR)])) := by
  obtain ⟨rs, r1, r2, r4, e⟩ := tidy_w (h := h ++ [.ins "Runs" []]) (hs.old fun j hj => List.getElem?_append_left hj) hp
  refine ⟨rs, r1, r2, r4, ?_⟩
  have l1 : (h ++ [MO.ins "Runs" []]).length = h.length + 1 := by simp
  have f : F_Runs___init__ [.ref h.length, v] (h ++ [.ins "Runs" []]) = some (.ok .non (h ++ [.ins "Runs" [("tidied", .ref (h.length + 1))], .lst (rs.map enR)])) := by
    have w : Wm (F_Runs___init__ [.ref h.length, v] (h ++ [.ins "Runs" []])) (fun x h' => x = .non ∧ h' = h ++ [.ins "Runs" [("tidied", .ref (h.length + 1))], .lst (rs.map enR)]) NE := by
      unfold F_Runs___init__
      rw [wm_fn]
      refine ⟨rfl, ?_⟩
      unfold B_Runs___init__
      have ia : insN (.ref h.length) ((h ++ [.ins "Runs" []]) ++ [.lst (rs.map enR)]) = some (h.length, Str.ofString "Runs", []) := by
        have : ((h ++ [MO.ins "Runs" []]) ++ [MO.lst (rs.map enR)])[h.length]? = some (.ins "Runs" []) := by
          rw [List.getElem?_append_left (by simp)]
          exact push_at
        simp only [insN, this]
      simp only [sFldM, ws_bs, x1, xCons, x2, xVar, xNil, wm_bd, wm_ok, wm_pu, List.replicate, List.map_cons, List.map_nil, List.cons_append, List.nil_append, List.getElem?_cons_zero, List.getElem?_cons_succ]
      rw [e, wm_ok]
      simp only [ia, List.mem_singleton, List.length_nil, Nat.reduceLT, and_self, if_true, ws_nx, putN]
      refine ⟨by first | rfl | trivial, ?_⟩
      rw [List.append_assoc, List.set_append_right _ _ (Nat.le_refl _), Nat.sub_self, l1]
      rfl
    obtain ⟨x, h', e2, rfl, rfl⟩ := w.out
    exact e2
  simp only [mMake, f]
/-- Repeats(Runs(v)) -/
theorem made_w {v : MV} {ps : List (List Nat × Nat)} (hs : IsSq h v (ps.map enR)) (hp : PairsOk ps)
    (q : ∀ v' rs h', RepAt h' v' rs → txt rs = txt ps → rs.length ≤ ps.length → h.length ≤ h'.length → (∀ j, j < h.length → h'[j]? = h[j]?) → Q v' h') : Wm (mMake "Runs" F_Runs___init__ [v] h) (fun x h1 => Wm (mMake "Repeats" F_Repeats___init__ [x] h1) Q E) E := by
  obtain ⟨rs, r1, r2, r4, e⟩ := runs_make hs hp
  rw [e, wm_ok]
  have hr : (h ++ [.ins "Runs" [("tidied", .ref (h.length + 1))], .lst (rs.map enR)])[h.length]? = some (.ins "Runs" [("tidied", .ref (h.length + 1))]) := by simp
  have hl : (h ++ [.ins "Runs" [("tidied", .ref (h.length + 1))], .lst (rs.map enR)])[h.length + 1]? = some (.lst (rs.map enR)) := by
    rw [List.getElem?_append_right (by omega)]
    simp
  have len2 : (h ++ [MO.ins "Runs" [("tidied", .ref (h.length + 1))], MO.lst (rs.map enR)]).length = h.length + 2 := by simp
  generalize hh : (h ++ [MO.ins "Runs" [("tidied", .ref (h.length + 1))], .lst (rs.map enR)]) = h2 at hr hl len2
  have keep : ∀ j, j < h.length → h2[j]? = h[j]? := fun j hj => by rw [← hh]; exact List.getElem?_append_left hj
  have f : F_Repeats___init__ [.ref h2.length, .ref h.length] (h2 ++ [.ins "Repeats" []]) = some (.ok .non (h2 ++ [.ins "Repeats" [("runs", .ref (h.length + 1))]])) := by
    have w : Wm (F_Repeats___init__ [.ref h2.length, .ref h.length] (h2 ++ [.ins "Repeats" []])) (fun x h' => x = .non ∧ h' = h2 ++ [.ins "Repeats" [("runs", .ref (h.length + 1))]]) NE := by
      unfold F_Repeats___init__
      rw [wm_fn]
      refine ⟨rfl, ?_⟩
      unfold B_Repeats___init__
      have hr2 : (h2 ++ [MO.ins "Repeats" []])[h.length]? = some (.ins "Runs" [("tidied", .ref (h.length + 1))]) := by
        rw [List.getElem?_append_left (by omega)]
        exact hr
      have io : mIsO "Runs" ["Runs", "Repeats"] (.ref h.length) (h2 ++ [.ins "Repeats" []]) = some (.ok (.bl true) (h2 ++ [.ins "Repeats" []])) := by
        simp [mIsO, insAt, hr2]
      have fl : mFld ["Runs"] "tidied" (.ref h.length) (h2 ++ [.ins "Repeats" []]) = some (.ok (.ref (h.length + 1)) (h2 ++ [.ins "Repeats" []])) := by
        have : insAt (.ref h.length) (h2 ++ [.ins "Repeats" []]) = some (Str.ofString "Runs", ([("tidied", .ref (h.length + 1))] : List (Str × MV))) := by simp only [insAt, hr2]
        unfold mFld
        rw [this]
        rfl
      have ia : insN (.ref h2.length) (h2 ++ [.ins "Repeats" []]) = some (h2.length, Str.ofString "Repeats", []) := by
        have : (h2 ++ [MO.ins "Repeats" []])[h2.length]? = some (.ins "Repeats" []) := push_at
        simp only [insN, this]
      rw [ws_seq]
      refine ws_ifT ?_ ?_
      · simp only [tst, x1, xVar, wm_bd, wm_ok, List.replicate, List.map_cons, List.map_nil, List.cons_append, List.nil_append, List.getElem?_cons_zero, List.getElem?_cons_succ, io, truM, Option.map_some, and_self]
      · simp only [sRetN, sFldM, ws_seq, ws_bs, x1, xVar, wm_bd, wm_ok, List.replicate, List.map_cons, List.map_nil, List.cons_append, List.nil_append, List.getElem?_cons_zero, List.getElem?_cons_succ, fl, ia, List.mem_singleton, List.length_nil, Nat.reduceLT, and_self, if_true, ws_nx, ws_rt, putN]
        refine ⟨by first | rfl | trivial, ?_⟩
        rw [List.set_append_right _ _ (Nat.le_refl _), Nat.sub_self]
        rfl
    obtain ⟨x, h', e2, rfl, rfl⟩ := w.out
    exact e2
  have e3 : mMake "Repeats" F_Repeats___init__ [.ref h.length] h2 = some (.ok (.ref h2.length) (h2 ++ [.ins "Repeats" [("runs", .ref (h.length + 1))]])) := by simp only [mMake, f]
  rw [e3, wm_ok]
  refine q _ rs _ ⟨⟨h2.length, h.length + 1, rfl, push_at, ?_⟩, r1⟩ r2 r4 (by simp [len2]; omega) fun j hj => ?_
  · rw [List.getElem?_append_left (by omega)]
    exact hl
  · rw [List.getElem?_append_left (by omega)]
    exact keep j hj
end

end Lw
namespace Lw
open PySem PySem.Spec PyProof.Rows L2 Ob Mi StX
section
variable {h : Mh} {Q : MV → Mh → Prop} {E : Exn → Mh → Prop}
theorem meth_w {v : MV} {rs : List (List Nat × Nat)} {m : Str} {F : List MV → M MV} {A : Sg → M MV} {As : Sg → M (List MV)} {g : Sg} (r : RepAt h v rs) (hm : m ≠ "runs") (ha : A g h = some (.ok v h)) : Wm (xMeth "Repeats" m F A As g h) Q E = Wm (As g h) (fun xs h1 => Wm (F (v :: xs) h1) Q E) E := by
  obtain ⟨⟨r, l, rfl, e2, e3⟩, ok⟩ := r
  have ia : insAt (.ref r) h = some (Str.ofString "Repeats", ([("runs", .ref l)] : List (Str × MV))) := by simp only [insAt, e2]
  have lk : ([("runs", .ref l)] : List (Str × MV)).lookup m = none := by
    have : (m == Str.ofString "runs") = false := by simpa using hm
    simp [List.lookup, this]
  have e : xMeth "Repeats" m F A As g h = bd (As g) (fun xs => F (.ref r :: xs)) h := by
    unfold xMeth bd
    rw [ha]
    dsimp only
    rw [ia]
    dsimp only
    rw [if_pos ⟨rfl, lk⟩]
  rw [e, wm_bd]
theorem maxI {i j : Int} : Wm (mMax [.int i, .int j] h) Q E = Q (.int (if j > i then j else i)) h := rfl
theorem minI {i j : Int} : Wm (mMin [.int i, .int j] h) Q E = Q (.int (if j < i then j else i)) h := rfl
end

end Lw
namespace Lw
open PySem PySem.Spec PyProof.Rows L2 Ob Mi StX
/-! ### cut, part -/
section
variable {h : Mh} {Q : MV → Mh → Prop} {E : Exn → Mh → Prop}
theorem divmod_w {i j : Nat} (h0 : 0 < j) (h1 : j < 2 ^ 60) : Wm (mDivmod [.int (i : Nat), .int (j : Nat)] h) Q E = Q (.tup [.int ((i / j : Nat) : Int), .int ((i % j : Nat) : Int)]) h := by
  have hl : (j : Int).natAbs.log2 < 9000 := by
    have : (j : Int).natAbs.log2 < 60 := (Nat.log2_lt (by omega)).mpr (by omega)
    omega
  have e : mDivmod [.int (i : Nat), .int (j : Nat)] h = some (.ok (.tup [.int ((i : Int) / (j : Int)), .int ((i : Int) % (j : Int))]) h) := if_pos ⟨by omega, hl⟩
  rw [e, wm_ok]
  rfl
theorem cut_w {p : List Nat} {b e : Nat} (hb : b ≤ e) (h0 : 0 < p.length) (hz : p.length ≤ 2000) : Wm (F_cut [.str (st p), .int (b : Nat), .int (e : Nat)] h) Q E = Q (.tl ((cutP p b e).map enR)) h := by
  have ee : F_cut [.str (st p), .int (b : Nat), .int (e : Nat)] h = some (.ok (.tl ((cutP p b e).map enR)) h) := by
    refine wm_eq ?_
    unfold F_cut
    rw [wm_fn]
    refine ⟨rfl, ?_⟩
    unfold B_cut
    have lz : p.length ≤ 16000000 := by omega
    have l60 : p.length < 2 ^ 60 := by omega
    have m1 := Nat.mod_lt b h0
    have m2 := Nat.mod_lt e h0
    refine ws_cutP (fun g h' => h' = h ∧ g = [some (.str (st p)), some (.int (b : Nat)), some (.int (e : Nat)), some (.int ((b / p.length : Nat) : Int)), some (.int ((b % p.length : Nat) : Int)), none, none]) (fun P kp => ?_) ?_
    · simp only [sAsg, ws_bs, x1, xCons, x2, xVar, xNil, wm_bd, wm_ok, wm_pu, List.replicate, List.map_cons, List.map_nil, List.cons_append, List.nil_append, List.getElem?_cons_zero, List.getElem?_cons_succ, len_st lz, divmod_w h0 l60]
      exact kp _ _ ⟨rfl, rfl⟩
    rintro _ h ⟨rfl, rfl⟩
    refine ws_cutP (fun g h' => h' = h ∧ g = [some (.str (st p)), some (.int (b : Nat)), some (.int (e : Nat)), some (.int ((b / p.length : Nat) : Int)), some (.int ((b % p.length : Nat) : Int)), some (.int ((e / p.length : Nat) : Int)), some (.int ((e % p.length : Nat) : Int))]) (fun P kp => ?_) ?_
    · simp only [sAsg, ws_bs, x1, xCons, x2, xVar, xNil, wm_bd, wm_ok, wm_pu, List.getElem?_cons_zero, List.getElem?_cons_succ, len_st lz, divmod_w h0 l60]
      exact kp _ _ ⟨rfl, rfl⟩
    rintro _ h ⟨rfl, rfl⟩
    have c1 : cutL p (some ((b % p.length : Nat) : Int)) (some ((e % p.length : Nat) : Int)) = (p.drop (b % p.length)).take (e % p.length - b % p.length) := by
      unfold cutL
      rw [HT.sIx_nat, HT.sIx_nat, Nat.min_eq_left (by omega), Nat.min_eq_left (by omega)]
    have c2 : cutL p (some ((b % p.length : Nat) : Int)) none = p.drop (b % p.length) := by
      unfold cutL
      rw [HT.sIx_nat, HT.sIx_none, Nat.min_eq_left (by omega), List.take_of_length_le (by simp)]
    have c3 : cutL p none (some ((e % p.length : Nat) : Int)) = p.take (e % p.length) := by
      unfold cutL
      rw [HT.sIx_nat, HT.sIx_none, Nat.min_eq_left (by omega)]
      rfl
    unfold cutP
    by_cases c : b / p.length = e / p.length
    · rw [if_pos c, ws_seq]
      refine ws_ifT ?_ ?_
      · simp only [tsb, x1, x2, xVar, wm_bd, wm_ok, wm_pu, List.getElem?_cons_zero, List.getElem?_cons_succ, eqI]
        simp [c]
      · simp only [sRet, ws_bs, xSl, xPart, xNoP, x1, xCons, x2, xVar, xC, xNil, wm_bd, wm_ok, wm_pu, List.getElem?_cons_zero, List.getElem?_cons_succ, cut_st lz, c1, tup1, lst1, List.length_cons, List.length_nil, Nat.reduceAdd, Nat.reduceLeDiff, ws_rt]
        exact ⟨by first | rfl | trivial, by first | rfl | trivial⟩
    · rw [if_neg c]
      refine ws_skip ?_ ?_
      · simp only [tsb, x1, x2, xVar, wm_bd, wm_ok, wm_pu, List.getElem?_cons_zero, List.getElem?_cons_succ, eqI]
        have : ¬ (((b / p.length : Nat) : Int) = ((e / p.length : Nat) : Int)) := by omega
        simp
        omega
      · simp only [sRet, ws_bs, xSl, xPart, xNoP, x1, xCons, x2, xVar, xC, xNil, wm_bd, wm_ok, wm_pu, List.getElem?_cons_zero, List.getElem?_cons_succ, cut_st lz, c2, c3, subI, tup1, lst1, List.length_cons, List.length_nil, Nat.reduceAdd, Nat.reduceLeDiff, ws_rt]
        have hd : b / p.length ≤ e / p.length := Nat.div_le_div_right hb
        have e1 : (((e / p.length : Nat) : Int) - ((b / p.length : Nat) : Int) - 1) = ((e / p.length - b / p.length - 1 : Nat) : Int) := by omega
        rw [e1]
        exact ⟨by first | rfl | trivial, by first | rfl | trivial⟩
  rw [ee, wm_ok]
theorem ext_w {n : Nat} {xs ys : List MV} (hn : h[n]? = some (.lst xs)) (hz : xs.length + ys.length < 16000000) : Wm (mExtS (.ref n) [.tl ys] h) Q E = Q .non (h.set n (.lst (xs ++ ys))) := by
  have e : mExtS (.ref n) [.tl ys] h = some (.ok .non (h.set n (.lst (xs ++ ys)))) := by
    have : xs.length + ys.length ≤ sizeLine := by rw [sizeLine_eq]; omega
    simp [mExtS, mExtend, lstAt, lsw, hn, this]
  rw [e]
  rfl
theorem seg_app {x y : List Nat} {b e : Nat} (hb : b ≤ e) : ((x ++ y).take e).drop b = (x.take e).drop b ++ ((y.take (e - x.length)).drop (b - x.length)) := by
  rw [List.take_append, List.drop_append]
  congr 1
  by_cases c : e ≤ x.length
  · rw [show e - x.length = 0 by omega, List.take_zero, List.drop_nil, List.drop_nil]
  · rw [List.take_of_length_le (show x.length ≤ e by omega)]
theorem part_w {v : MV} {rs : List (List Nat × Nat)} (m : RepAt h v rs) (hf : rs.length ≤ 1000) {b e : Nat} (hb : b ≤ e) (he : e ≤ (txt rs).length)
    (q : ∀ v' rs' h', RepAt h' v' rs' → txt rs' = ((txt rs).take e).drop b → rs'.length ≤ 3 * rs.length → h.length ≤ h'.length → (∀ j, j < h.length → h'[j]? = h[j]?) → Q v' h') : Wm (F_Repeats_part [v, .int (b : Nat), .int (e : Nat)] h) Q E := by
  obtain ⟨l, e3, ef⟩ := m.fld
  unfold F_Repeats_part
  rw [wm_fn]
  refine ⟨rfl, ?_⟩
  unfold B_Repeats_part
  refine ws_skip ?_ ?_
  · simp only [tOrM, tNoM, tst, x1, xCons, x2, xVar, xC, xNil, wm_bd, wm_ok, wm_pu, List.replicate, List.map_cons, List.map_nil, List.cons_append, List.nil_append, List.getElem?_cons_zero, List.getElem?_cons_succ, length_w m, integer_w, truM, Option.map_some]
    have h1 : (0 : Int) ≤ (e : Int) ∧ (e : Int) ≤ ((txt rs).length : Nat) := by omega
    have h2 : (0 : Int) ≤ (b : Int) ∧ (b : Int) ≤ (e : Int) := by omega
    simp [x1, xCons, x2, xVar, xC, xNil, integer_w, truM, h1, h2]
  refine ws_cutP (fun g h' => h' = h ++ [.lst []] ∧ g = [some (v), some (.int (b : Nat)), some (.int (e : Nat)), some (.ref h.length), some (.int 0), none, none, none]) (fun P kp => ?_) ?_
  · simp only [sPar, ws_bs, x1, xCons, x2, xC, xNil, wm_bd, wm_ok, wm_pu, mLst, mkl, List.length_nil, Nat.zero_le, if_true, ws_nx]
    exact kp _ _ ⟨rfl, rfl⟩
  rintro _ _ ⟨rfl, rfl⟩
  have o1 : ∀ j, j < h.length → (h ++ [MO.lst []])[j]? = h[j]? := fun j hj => List.getElem?_append_left hj
  have m2 := m.old o1
  obtain ⟨l2, e4, ef2⟩ := m2.fld
  have hl : l < h.length := at_lt e3
  refine ws_cutP (fun g h' => ∃ cs, PairsOk cs ∧ txt cs = ((txt rs).take e).drop b ∧ cs.length ≤ 3 * rs.length ∧ h' = h ++ [.lst (cs.map enR)] ∧ ∃ u4 u5 u6 u7, g = [some (v), some (.int (b : Nat)), some (.int (e : Nat)), some (.ref h.length), u4, u5, u6, u7]) (fun P kp => ?_) ?_
  · rw [ws_for]
    simp only [x1, xVar, wm_bd, wm_ok, List.getElem?_cons_zero, ef2, iterH e4]
    have l2h : l2 < h.length := by
      obtain ⟨⟨r, l', rfl, a2, a3⟩, _⟩ := m
      have := at_lt a3
      have i1 : insAt (.ref r) (h ++ [MO.lst []]) = some (Str.ofString "Repeats", ([("runs", .ref l')] : List (Str × MV))) := by
        have : (h ++ [MO.lst []])[r]? = some (.ins "Repeats" [("runs", .ref l')]) := by rw [o1 r (at_lt a2)]; exact a2
        simp only [insAt, this]
      have i2 : mFld ["Repeats"] "runs" (.ref r) (h ++ [MO.lst []]) = some (.ok (.ref l') (h ++ [MO.lst []])) := by
        unfold mFld
        rw [i1]
        rfl
      rw [i2] at ef2
      cases ef2
      exact this
    have at2 : ∀ o, (h ++ [o])[l2]? = some (.lst (rs.map enR)) := fun o => by
      rw [List.getElem?_append_left l2h] at e4 ⊢
      exact e4
    refine for_invG (xs := rs.map enR) (fun k g h' => ∃ cs, (∀ r ∈ cs, LcA r.1 ∧ r.1.length ≤ 2000) ∧ cs.length ≤ 3 * k ∧ txt cs = ((txt (rs.take k)).take e).drop b ∧ h' = h ++ [.lst (cs.map enR)] ∧ ∃ u5 u6 u7, g = [some (v), some (.int (b : Nat)), some (.int (e : Nat)), some (.ref h.length), some (.int ((txt (rs.take k)).length : Nat)), u5, u6, u7]) ?_ (by simp; omega) ⟨[], by simp, by simp, by simp [txt_nil], rfl, _, _, _, rfl⟩ ?_ ?_
    · rintro k g h' ⟨cs, _, _, _, rfl, _⟩
      exact itH_at (at2 _)
    · rintro k x g h' ex ⟨cs, c1, c2, c3, rfl, u5, u6, u7, rfl⟩
      rw [List.getElem?_map] at ex
      obtain ⟨r, eq, rfl⟩ := Option.map_eq_some_iff.mp ex
      obtain ⟨q1, q2, q3, q4⟩ := m.ok.el r (List.mem_of_getElem? eq)
      have hk : k < rs.length := (List.getElem?_eq_some_iff.mp eq).1
      have lz : r.1.length ≤ 16000000 := by omega
      have l60 : r.1.length < 2 ^ 60 := by omega
      have l0 : 0 < r.1.length := List.length_pos_iff.mpr q1
      have hn : (h ++ [.lst (cs.map enR)])[h.length]? = some (.lst (cs.map enR)) := push_at
      have tk : (txt (rs.take (k + 1))).length = (txt (rs.take k)).length + r.1.length * r.2 := txt_take eq
      have tx : txt (rs.take (k + 1)) = txt (rs.take k) ++ rep r.2 r.1 := by
        rw [List.take_succ_eq_append_getElem hk, txt_app, (List.getElem?_eq_some_iff.mp eq).2, txt_one]
      have sg := seg_app (x := txt (rs.take k)) (y := rep r.2 r.1) hb
      rw [← tx, ← c3] at sg
      have rl := rep_len r.1 r.2
      generalize hT : (txt (rs.take k)).length = T at tk sg c3
      have g1 : gTp 2 (gCn (gNm 5) (gCn (gNm 6) gNl)) (enR r) [some (v), some (.int (b : Nat)), some (.int (e : Nat)), some (.ref h.length), some (.int (T : Nat)), u5, u6, u7] (h ++ [.lst (cs.map enR)]) = some (.ok [some (v), some (.int (b : Nat)), some (.int (e : Nat)), some (.ref h.length), some (.int (T : Nat)), some (.str (st r.1)), some (.int (r.2 : Nat)), u7] (h ++ [.lst (cs.map enR)])) := rfl
      rw [g1, wm_ok]
      refine ws_cutP (fun g h' => h' = h ++ [.lst (cs.map enR)] ∧ g = [some (v), some (.int (b : Nat)), some (.int (e : Nat)), some (.ref h.length), some (.int (T : Nat)), some (.str (st r.1)), some (.int (r.2 : Nat)), some (.int ((r.1.length * r.2 : Nat) : Int))]) (fun P kp => ?_) ?_
      · simp only [sSet, x1, xCons, x2, xVar, xNil, ws_bs, wm_bd, wm_ok, wm_pu, List.getElem?_cons_zero, List.getElem?_cons_succ, len_st lz, mulN' l60, ws_nx]
        exact kp _ _ ⟨rfl, rfl⟩
      rintro _ _ ⟨rfl, rfl⟩
      refine ws_cutP (fun g h' => ∃ cs', (∀ r ∈ cs', LcA r.1 ∧ r.1.length ≤ 2000) ∧ cs'.length ≤ 3 * (k + 1) ∧ txt cs' = ((txt (rs.take (k + 1))).take e).drop b ∧ h' = h ++ [.lst (cs'.map enR)] ∧ g = [some (v), some (.int (b : Nat)), some (.int (e : Nat)), some (.ref h.length), some (.int (T : Nat)), some (.str (st r.1)), some (.int (r.2 : Nat)), some (.int ((r.1.length * r.2 : Nat) : Int))]) (fun P kp => ?_) ?_
      · by_cases c : b < T + r.1.length * r.2 ∧ T < e
        · refine ws_ifT ?_ ?_
          · simp only [tAnM, tsb, x1, x2, xVar, wm_bd, wm_ok, wm_pu, List.getElem?_cons_zero, List.getElem?_cons_succ, addI, ltI]
            have h1 : (b : Int) < (T : Int) + ((r.1.length * r.2 : Nat) : Int) := by omega
            have h2 : (e : Int) > (T : Int) := by omega
            rw [Int.natCast_mul] at h1
            simp [h1, h2, xVar]
          · have it : isTy "list" (.ref h.length) (h ++ [.lst (cs.map enR)]) = true := by simp [isTy, lsv, hn]
            have e1 : (if (0 : Int) > (b : Int) - (T : Int) then (0 : Int) else (b : Int) - (T : Int)) = ((b - T : Nat) : Int) := by split <;> omega
            have e2 : (if ((r.1.length * r.2 : Nat) : Int) < (e : Int) - (T : Int) then ((r.1.length * r.2 : Nat) : Int) else (e : Int) - (T : Int)) = ((min (e - T) (r.1.length * r.2) : Nat) : Int) := by split <;> omega
            simp only [sDrop, xBM, x1, xCons, x2, xVar, xC, xNil, ws_bs, wm_bd, wm_ok, wm_pu, List.getElem?_cons_zero, List.getElem?_cons_succ, it, if_true, wm_itf, subI, maxI, minI, e1, e2]
            obtain ⟨k1, k2⟩ := cutP_ok (b := b - T) (e := min (e - T) (r.1.length * r.2)) q3 q4
            rw [cut_w (by omega) l0 q4]
            rw [ext_w hn (by have := hf; simp; omega), ws_nx]
            refine kp _ _ ⟨cs ++ cutP r.1 (b - T) (min (e - T) (r.1.length * r.2)), ?_, by simp; omega, ?_, ?_, rfl⟩
            · intro z hz
              exact (List.mem_append.mp hz).elim (c1 z) (k1 z)
            · rw [txt_app, cutP_txt (n := r.2) l0 (by omega) (by rw [Nat.mul_comm]; omega), sg]
              congr 2
              by_cases d : e - T ≤ r.1.length * r.2
              · rw [Nat.min_eq_left d]
              · rw [Nat.min_eq_right (by omega), List.take_of_length_le (by rw [rl, Nat.mul_comm]; omega), List.take_of_length_le (by rw [rl, Nat.mul_comm]; omega)]
            · rw [List.set_append_right _ _ (Nat.le_refl _), Nat.sub_self, List.map_append]
              rfl
        · refine ws_ifF ?_ (kp _ _ ⟨cs, c1, by omega, ?_, rfl, rfl⟩)
          · simp only [tAnM, tsb, x1, x2, xVar, wm_bd, wm_ok, wm_pu, List.getElem?_cons_zero, List.getElem?_cons_succ, addI, ltI]
            by_cases d : b < T + r.1.length * r.2
            · have h1 : (b : Int) < (T : Int) + ((r.1.length * r.2 : Nat) : Int) := by omega
              have h2 : ¬ (e : Int) > (T : Int) := by omega
              rw [Int.natCast_mul] at h1
              simp [h1, h2, xVar]
            · have h1 : ¬ (b : Int) < (T : Int) + ((r.1.length * r.2 : Nat) : Int) := by omega
              rw [Int.natCast_mul] at h1
              simp [h1]
          · rw [sg]
            have : ((rep r.2 r.1).take (e - T)).drop (b - T) = [] := by
              by_cases d : T < e
              · exact List.drop_eq_nil_of_le (by rw [List.length_take, rl, Nat.mul_comm]; omega)
              · rw [show e - T = 0 by omega, List.take_zero, List.drop_nil]
            rw [this, List.append_nil]
      rintro _ _ ⟨cs', d1, d2, d3, rfl, rfl⟩
      simp only [sAug, ws_bs, xVar, wm_ok, List.getElem?_cons_zero, List.getElem?_cons_succ, ws_nx]
      refine ⟨cs', d1, d2, d3, rfl, some (.str (st r.1)), some (.int (r.2 : Nat)), some (.int ((r.1.length * r.2 : Nat) : Int)), ?_⟩
      rw [tk, Int.natCast_add]
      rfl
    · rintro g h' ⟨cs, c1, c2, c3, rfl, u5, u6, u7, rfl⟩
      rw [List.length_map, List.take_length] at c3
      rw [List.length_map] at c2
      have hbig : (txt cs).length < 2 ^ 400 := by
        have := m.ok.big
        rw [c3, List.length_drop, List.length_take]
        omega
      exact kp _ _ ⟨cs, ⟨c1, by omega, hbig⟩, c3, c2, rfl, _, _, _, _, rfl⟩
  rintro _ _ ⟨cs, c1, c3, c2, rfl, u4, u5, u6, u7, rfl⟩
  simp only [sRet, ws_bs, x1, xCons, x2, xVar, xNil, wm_bd, wm_ok, wm_pu, List.getElem?_cons_zero, List.getElem?_cons_succ]
  refine made_w (ps := cs) (.inr ⟨h.length, rfl, push_at⟩) c1 fun v' rs' h' r a1 a2 a3 a4 => ?_
  rw [ws_rt]
  refine q v' rs' h' r (a1.trans c3) (Nat.le_trans a2 c2) (by simp at a3; omega) fun j hj => ?_
  rw [a4 j (by simp; omega)]
  exact List.getElem?_append_left hj
end

end Lw
namespace Lw
open PySem PySem.Spec PyProof.Rows L2 Ob Mi StX
/-! ### Repeats(pairs), Repeats.once(text) -/
section
variable {h : Mh} {Q : MV → Mh → Prop} {E : Exn → Mh → Prop}
theorem allB {bs : List Bool} : Wm (mAll [.tl (bs.map .bl)] h) Q E = Q (.bl (bs.all id)) h := by
  have e : mAll [.tl (bs.map .bl)] h = some (.ok (.bl (bs.all id)) h) := by
    unfold mAll
    simp only [lsv, boolsOf_map, Option.map_some]
  rw [e, wm_ok]
/-- all of a comprehension of trues -/
theorem comp_allT {xs : List MV} {it : MIt} {T : CT} {F : Sg → M MV} {g : Sg} {vs : List Nat} {I : Sg → M MIt} (hi : I g h = some (.ok it h)) (hit : ∀ i, it i h = some xs[i]?) (hl : xs.length < 16000000)
    (step : ∀ x ∈ xs, ∃ g1, T x (wipM g vs) = some g1 ∧ Wm (F g1 h) (fun y h2 => y = .bl true ∧ h2 = h) NE) (k : Q (.bl true) h) : Wm (xLc false I T cYes F vs g h) (fun a h1 => Wm (mAll [a] h1) Q E) E := by
  have tl : ∀ (l : List MV) (Q : MV → Mh → Prop) (E : Exn → Mh → Prop), Wm (mkl false l h) Q E = Q (.tl l) h := fun _ _ _ => rfl
  simp only [xLc, wm_bd, wm_ok, hi]
  refine comp_mapG (xs := xs) (fun _ => .bl true) hit hl (fun x hx => ?_) ?_
  · obtain ⟨g1, e1, e2⟩ := step x hx
    exact ⟨g1, e1, ⟨rfl, rfl⟩, e2⟩
  · rw [tl, show (xs.map fun _ => MV.bl true) = (xs.map fun _ => true).map .bl by rw [List.map_map]; rfl, allB]
    have : (xs.map fun _ => true).all id = true := by simp
    rw [this]
    exact k
theorem is_text_e {p : List Nat} (lc : LcA p) (hz : p.length ≤ 15000000) : F_is_text [.str (st p)] h = some (.ok (.bl true) h) := by
  refine wm_eq ?_
  unfold F_is_text
  rw [wm_fn]
  refine ⟨rfl, ?_⟩
  unfold B_is_text
  have e1 : mIsi "str" (.str (st p)) h = some true := rfl
  simp only [sRet, ws_bs, xAnd, x1, xCons, x2, xVar, xC, xNil, wm_bd, wm_ok, wm_pu, List.replicate, List.map_cons, List.map_nil, List.cons_append, List.nil_append, List.getElem?_cons_zero, isiV e1, truM]
  refine comp_allT (xs := p.map fun c => .str ⟨#[c]⟩) (it := itC (p.map fun c => .str ⟨#[c]⟩)) ?_ (fun i => rfl) (by simp; omega) (fun x hx => ?_) ?_
  · show some (Rs.ok (itC ((st p).cps.toList.map fun c => .str ⟨#[c]⟩)) h) = _
    rw [st_list]
  · obtain ⟨c, hc, rfl⟩ := List.mem_map.mp hx
    refine ⟨_, rfl, ?_⟩
    have e2 : mIn2 false (.str ⟨#[c]⟩) (.str "abcd") h = some (.ok (.bl true) h) := by
      rcases lc c hc with rfl | rfl | rfl | rfl <;> kernel_rfl
    simp only [x2, xVar, xC, wm_bd, wm_ok, wipM, List.length_cons, List.length_nil, Nat.reduceSub, List.replicate, List.set_cons_zero, List.set_cons_succ, List.getElem?_cons_zero, List.getElem?_cons_succ, e2, and_self]
  · simp only [wm_ok, wm_pu, ws_rt]
    exact ⟨by first | rfl | trivial, by first | rfl | trivial⟩
def TEN60 : Nat := 1000000000000000000000000000000000000000000000000000000000000
theorem is_pair_e {q : List Nat × Nat} (lc : LcA q.1) (hz : q.1.length ≤ 20) (hn : q.2 ≤ TEN60) : F_is_pair [enR q] h = some (.ok (.bl true) h) := by
  refine wm_eq ?_
  unfold F_is_pair
  rw [wm_fn]
  refine ⟨rfl, ?_⟩
  unfold B_is_pair
  have e1 : mIsi "tuple" (enR q) h = some true := rfl
  have ln : ∀ (Q : MV → Mh → Prop) (E : Exn → Mh → Prop), Wm (mLen [enR q] h) Q E = Q (.int 2) h := fun Q E => rfl
  refine ws_skip ?_ ?_
  · simp only [tOrM, tNoM, tst, tsb, x1, xCons, x2, xVar, xC, xNil, wm_bd, wm_ok, wm_pu, List.replicate, List.map_cons, List.map_nil, List.cons_append, List.nil_append, List.getElem?_cons_zero, isiV e1, truM, Option.map_some, Bool.not_true, Bool.false_eq_true, if_false, ln, neI, ne_eq, not_true, decide_false, and_self]
  refine ws_cutP (fun g h' => h' = h ∧ g = [some (enR q), some (.str (st q.1)), some (.int (q.2 : Nat))]) (fun P kp => ?_) ?_
  · simp only [sAsg, ws_bs, xVar, wm_ok, List.replicate, List.map_cons, List.map_nil, List.cons_append, List.nil_append, List.getElem?_cons_zero]
    exact kp _ _ ⟨rfl, rfl⟩
  rintro _ h ⟨rfl, rfl⟩
  have t1 : F_is_text [.str (st q.1)] h = some (.ok (.bl true) h) := is_text_e lc (by omega)
  have h2 : (0 : Int) ≤ (q.2 : Int) ∧ (q.2 : Int) ≤ 1000000000000000000000000000000000000000000000000000000000000 := by
    unfold TEN60 at hn
    omega
  have h3 : (q.1.length : Int) ≤ 20 := by omega
  simp only [sRet, ws_bs, xAnd, x1, xCons, x2, xVar, xC, xNil, wm_bd, wm_ok, wm_pu, List.getElem?_cons_zero, List.getElem?_cons_succ, t1, truM]
  simp [x1, xCons, x2, xVar, xC, xNil, len_st (show q.1.length ≤ 16000000 by omega), h3, integer_w, h2, truM]
theorem sq_facts {v : MV} {xs : List MV} (s : IsSq h v xs) : insAt v h = none ∧ tyN v h = some "list" ∧ (∀ (Q : MV → Mh → Prop) (E : Exn → Mh → Prop), Wm (mLen [v] h) Q E = Q (.int xs.length) h) := by
  rcases s with rfl | ⟨l, rfl, e⟩
  · exact ⟨rfl, rfl, fun _ _ => rfl⟩
  · exact ⟨by simp [insAt, e], by simp [tyN, e], fun Q E => by simp [mLen, seqv, tpv, lsv, e]⟩
theorem made_list {v : MV} {ps : List (List Nat × Nat)} (hs : IsSq h v (ps.map enR)) (hp : PairsOk ps) (h50 : ps.length ≤ 50) (hq : ∀ q ∈ ps, q.1.length ≤ 20 ∧ q.2 ≤ TEN60)
    (q : ∀ v' rs h', RepAt h' v' rs → txt rs = txt ps → rs.length ≤ ps.length → h.length ≤ h'.length → (∀ j, j < h.length → h'[j]? = h[j]?) → (∀ n o, n < h.length → RepAt (h'.set n o) v' rs) → Q v' h') : Wm (mMake "Repeats" F_Repeats___init__ [v] h) Q E := by
  have hs2 : IsSq (h ++ [MO.ins "Repeats" []]) v (ps.map enR) := hs.old fun j hj => List.getElem?_append_left hj
  obtain ⟨rs, r1, r2, r4, e⟩ := tidy_w hs2 hp
  have l1 : (h ++ [MO.ins "Repeats" []]).length = h.length + 1 := by simp
  obtain ⟨f1, f2, f3⟩ := sq_facts hs2
  have f : F_Repeats___init__ [.ref h.length, v] (h ++ [.ins "Repeats" []]) = some (.ok .non (h ++ [.ins "Repeats" [("runs", .ref (h.length + 1))], .lst (rs.map enR)])) := by
    have w : Wm (F_Repeats___init__ [.ref h.length, v] (h ++ [.ins "Repeats" []])) (fun x h' => x = .non ∧ h' = h ++ [.ins "Repeats" [("runs", .ref (h.length + 1))], .lst (rs.map enR)]) NE := by
      unfold F_Repeats___init__
      rw [wm_fn]
      refine ⟨rfl, ?_⟩
      unfold B_Repeats___init__
      have io : mIsO "Runs" ["Runs", "Repeats"] v (h ++ [.ins "Repeats" []]) = some (.ok (.bl false) (h ++ [.ins "Repeats" []])) := by
        unfold mIsO
        rw [f1]
        dsimp only
        rw [f2]
        rfl
      have il : mIsi "list" v (h ++ [.ins "Repeats" []]) = some true := by
        unfold mIsi
        rw [f2]
        rfl
      have ia : insN (.ref h.length) ((h ++ [.ins "Repeats" []]) ++ [.lst (rs.map enR)]) = some (h.length, Str.ofString "Repeats", []) := by
        have : ((h ++ [MO.ins "Repeats" []]) ++ [MO.lst (rs.map enR)])[h.length]? = some (.ins "Repeats" []) := by
          rw [List.getElem?_append_left (by simp)]
          exact push_at
        simp only [insN, this]
      refine ws_skip ?_ ?_
      · simp only [tst, x1, xVar, wm_bd, wm_ok, List.replicate, List.map_cons, List.map_nil, List.cons_append, List.nil_append, List.getElem?_cons_zero, List.getElem?_cons_succ, io, truM, Option.map_some, and_self]
      refine ws_skip ?_ ?_
      · have n50 : ¬ ((ps.length : Int) > 50) := by omega
        simp only [tOrM, tNoM, tst, tsb, x1, xCons, x2, xVar, xC, xNil, wm_bd, wm_ok, wm_pu, List.replicate, List.map_cons, List.map_nil, List.cons_append, List.nil_append, List.getElem?_cons_zero, List.getElem?_cons_succ, isiV il, truM, Option.map_some, Bool.not_true, Bool.false_eq_true, if_false, f3, gtI, List.length_map, n50, decide_false]
        obtain ⟨it, i1, i2⟩ := hs2.iter
        obtain ⟨it2, h2, i3, i4⟩ := (show Wm (iAny v (h ++ [.ins "Repeats" []])) (fun a h' => a = it ∧ h' = h ++ [.ins "Repeats" []]) NE by rw [i1]; exact ⟨rfl, rfl⟩).out
        obtain ⟨rfl, rfl⟩ := i4
        refine comp_allT (xs := ps.map enR) (it := it2) (by simp [x1, xVar, bd, i3]) (fun i => i2 _ (fun _ _ => rfl) i) (by simp; omega) (fun x hx => ?_) ?_
        · obtain ⟨z, hz, rfl⟩ := List.mem_map.mp hx
          refine ⟨_, rfl, ?_⟩
          have t := is_pair_e (h := h ++ [.ins "Repeats" []]) (hp.el z hz).1 (hq z hz).1 (hq z hz).2
          simp only [x1, xCons, x2, xVar, xNil, wm_bd, wm_ok, wm_pu, wipM, List.length_cons, List.length_nil, Nat.reduceSub, List.replicate, List.set_cons_zero, List.set_cons_succ, List.getElem?_cons_zero, List.getElem?_cons_succ, t, and_self]
        · simp only [wm_ok, wm_pu, wm_bd, truM, Option.map_some, Bool.not_true, and_self]
      · simp only [sFldM, ws_bs, x1, xCons, x2, xVar, xNil, wm_bd, wm_ok, wm_pu, List.replicate, List.map_cons, List.map_nil, List.cons_append, List.nil_append, List.getElem?_cons_zero, List.getElem?_cons_succ]
        rw [e, wm_ok]
        simp only [ia, List.mem_singleton, List.length_nil, Nat.reduceLT, and_self, if_true, ws_nx, putN]
        refine ⟨by first | rfl | trivial, ?_⟩
        rw [List.append_assoc, List.set_append_right _ _ (Nat.le_refl _), Nat.sub_self, l1]
        rfl
    obtain ⟨x, h', e2, rfl, rfl⟩ := w.out
    exact e2
  have e3 : mMake "Repeats" F_Repeats___init__ [v] h = some (.ok (.ref h.length) (h ++ [.ins "Repeats" [("runs", .ref (h.length + 1))], .lst (rs.map enR)])) := by simp only [mMake, f]
  rw [e3, wm_ok]
  have a1 : (h ++ [MO.ins "Repeats" [("runs", .ref (h.length + 1))], .lst (rs.map enR)])[h.length + 1]? = some (.lst (rs.map enR)) := by
    rw [List.getElem?_append_right (by omega)]
    simp
  have a2 : (h ++ [MO.ins "Repeats" [("runs", .ref (h.length + 1))], .lst (rs.map enR)])[h.length]? = some (.ins "Repeats" [("runs", .ref (h.length + 1))]) := by simp
  refine q _ rs _ ⟨⟨h.length, h.length + 1, rfl, a2, a1⟩, r1⟩ r2 r4 (by simp) (fun j hj => List.getElem?_append_left hj) fun n o hn => ⟨⟨h.length, h.length + 1, rfl, ?_, ?_⟩, r1⟩
  · rw [List.getElem?_set_ne (by omega)]
    exact a2
  · rw [List.getElem?_set_ne (by omega)]
    exact a1
end

end Lw
namespace Lw
open PySem PySem.Spec PyProof.Rows L2 Ob Mi StX
/-! ### the same items -/
theorem txt_seg {rs : List (List Nat × Nat)} {a u m : Nat} {q : List Nat × Nat} (hq : rs[a]? = some q) (h0 : 0 < q.1.length) (hm : u + m ≤ q.1.length * q.2) : ((txt rs).drop ((txt (rs.take a)).length + u)).take m = seg q.1 u m := by
  rw [txt_split hq, List.drop_append, List.drop_eq_nil_of_le (by omega), List.nil_append, show (txt (rs.take a)).length + u - (txt (rs.take a)).length = u by omega, List.drop_append_of_le_length (by rw [rep_len, Nat.mul_comm]; omega), List.take_append_of_le_length (by rw [List.length_drop, rep_len, Nat.mul_comm]; omega), seg_run (n := q.2) h0 (by rw [Nat.mul_comm]; exact hm)]
theorem take_more {x y : List Nat} {p m : Nat} (h : x.take p = y.take p) : x.take (p + m) = y.take (p + m) ↔ (x.drop p).take m = (y.drop p).take m := by
  rw [List.take_add, List.take_add, h, List.append_cancel_left_eq]
section
variable {h : Mh} {Q : MV → Mh → Prop} {E : Exn → Mh → Prop}
theorem addN {a b : Nat} {k : Bool} : Wm (mAdd k (.int (a : Nat)) (.int (b : Nat)) h) Q E = Q (.int ((a + b : Nat) : Int)) h := by rw [addI, Int.natCast_add]
theorem addN1 {a : Nat} {k : Bool} : Wm (mAdd k (.int (a : Nat)) (.int 1) h) Q E = Q (.int ((a + 1 : Nat) : Int)) h := by rw [addI, Int.natCast_add]; rfl
theorem subN {a b : Nat} (hb : b ≤ a) : Wm (mSub (.int (a : Nat)) (.int (b : Nat)) h) Q E = Q (.int ((a - b : Nat) : Int)) h := by rw [subI, show ((a : Int) - (b : Int)) = ((a - b : Nat) : Int) by omega]
theorem minN {a b : Nat} : Wm (mMin [.int (a : Nat), .int (b : Nat)] h) Q E = Q (.int ((min a b : Nat) : Int)) h := by
  rw [minI, show (if (b : Int) < (a : Int) then (b : Int) else (a : Int)) = ((min a b : Nat) : Int) by split <;> omega]
theorem stretch_w {p : List Nat} {u m : Nat} (h0 : 0 < p.length) (hz : p.length ≤ 2000) (hm : m ≤ 4000) : Wm (F_stretch [.str (st p), .int (u : Nat), .int (m : Nat)] h) Q E = Q (.str (st (seg p u m))) h := by
  have ee : F_stretch [.str (st p), .int (u : Nat), .int (m : Nat)] h = some (.ok (.str (st (seg p u m))) h) := by
    refine wm_eq ?_
    unfold F_stretch
    rw [wm_fn]
    refine ⟨rfl, ?_⟩
    unfold B_stretch
    have lz : p.length ≤ 16000000 := by omega
    have l60 : p.length < 2 ^ 60 := by omega
    have mu := Nat.mod_lt u h0
    have hd : (u % p.length + m) / p.length * p.length + (u % p.length + m) % p.length = u % p.length + m := by rw [Nat.mul_comm]; exact Nat.div_add_mod _ _
    have mu2 := Nat.mod_lt (u % p.length + m) h0
    have cle : (u % p.length + m) / p.length + 1 ≤ 5000 := by
      have h1 : (u % p.length + m) / p.length ≤ 4000 := by
        have h2 : u % p.length + m < 4001 * p.length := by
          have h3 : 4000 ≤ 4000 * p.length := Nat.le_mul_of_pos_right _ h0
          omega
        have := (Nat.div_lt_iff_lt_mul h0).mpr h2
        omega
      omega
    have rl := rep_len p ((u % p.length + m) / p.length + 1)
    rw [Nat.succ_mul] at rl
    refine ws_cutP (fun g h' => h' = h ∧ g = [some (.str (st p)), some (.int (u : Nat)), some (.int (m : Nat)), some (.int ((u % p.length : Nat) : Int)), none]) (fun P kp => ?_) ?_
    · simp only [sSet, ws_bs, x1, xCons, x2, xVar, xNil, wm_bd, wm_ok, wm_pu, List.replicate, List.map_cons, List.map_nil, List.cons_append, List.nil_append, List.getElem?_cons_zero, List.getElem?_cons_succ, len_st lz, mod_of h0, ws_nx]
      exact kp _ _ ⟨rfl, rfl⟩
    rintro _ h ⟨rfl, rfl⟩
    refine ws_cutP (fun g h' => h' = h ∧ g = [some (.str (st p)), some (.int (u : Nat)), some (.int (m : Nat)), some (.int ((u % p.length : Nat) : Int)), some (.int (((u % p.length + m) / p.length + 1 : Nat) : Int))]) (fun P kp => ?_) ?_
    · simp only [sSet, ws_bs, x1, xCons, x2, xVar, xC, xNil, wm_bd, wm_ok, wm_pu, List.getElem?_cons_zero, List.getElem?_cons_succ, len_st lz, addN, addN1, fdvN h0 l60, ws_nx]
      exact kp _ _ ⟨rfl, rfl⟩
    rintro _ h ⟨rfl, rfl⟩
    simp only [sRet, ws_bs, xSl, xPart, x1, x2, xVar, wm_bd, wm_ok, wm_pu, List.getElem?_cons_zero, List.getElem?_cons_succ, mul_st2 cle (show p.length ≤ 3000 by omega), addN]
    rw [cut_st (by rw [rl]; omega), ws_rt]
    have c1 : cutL (rep ((u % p.length + m) / p.length + 1) p) (some ((u % p.length : Nat) : Int)) (some ((u % p.length + m : Nat) : Int)) = seg p u m := by
      unfold cutL seg
      rw [HT.sIx_nat, HT.sIx_nat, Nat.min_eq_left (by rw [rl]; omega), Nat.min_eq_left (by rw [rl]; omega), show u % p.length + m - u % p.length = m by omega]
    rw [c1]
    exact ⟨rfl, rfl⟩
  rw [ee, wm_ok]
theorem at_w {l k : Nat} {rs : List (List Nat × Nat)} {q : List Nat × Nat} (hl : h[l]? = some (.lst (rs.map enR))) (hq : rs[k]? = some q) : Wm (mSub2 (.ref l) (.int (k : Nat)) h) Q E = Q (enR q) h := by
  have hk : k < rs.length := (List.getElem?_eq_some_iff.mp hq).1
  have e : mIx (.ref l) (.int (k : Nat)) h = some (.ok (enR q) h) := by
    have ix : atI (rs.map enR) ((k : Nat) : Int) = some (enR q) := by
      have hl2 : (rs.map enR).length = rs.length := by simp
      have ixn : ixN rs.length ((k : Nat) : Int) = some k := by
        unfold ixN
        rw [if_pos (by omega), if_pos (by omega), Int.toNat_natCast]
      unfold atI
      rw [hl2, ixn]
      show (rs.map enR)[k]? = _
      rw [List.getElem?_map, hq]
      rfl
    simp only [mIx, tpv, lsv, hl, Option.bind_some, ix, Option.map_some]
  unfold mSub2
  rw [e]
  rfl
/-- where the two walks stand -/
structure Two (rs ss : List (List Nat × Nat)) (a b u v : Nat) : Prop where
  a_ : a ≤ rs.length
  b_ : b ≤ ss.length
  pos : (txt (rs.take a)).length + u = (txt (ss.take b)).length + v
  u_ : ∀ q, rs[a]? = some q → u < q.1.length * q.2
  v_ : ∀ q, ss[b]? = some q → v < q.1.length * q.2
  u0 : a = rs.length → u = 0
  v0 : b = ss.length → v = 0
  eq : (txt rs).take ((txt (rs.take a)).length + u) = (txt ss).take ((txt (rs.take a)).length + u)
end
theorem Two.inside {rs ss : List (List Nat × Nat)} {a b u v : Nat} (t : Two rs ss a b u v) (hl : (txt rs).length = (txt ss).length) (ha : a < rs.length) : b < ss.length := by
  by_cases c : b < ss.length
  · exact c
  · exfalso
    have hb : b = ss.length := by have := t.b_; omega
    have e1 := t.pos
    rw [t.v0 hb, hb, List.take_length, Nat.add_zero] at e1
    have hq : rs[a]? = some rs[a] := List.getElem?_eq_getElem ha
    have h1 := t.u_ _ hq
    have h2 := txt_split hq
    have h3 := congrArg List.length h2
    rw [List.length_append, List.length_append, rep_len] at h3
    have := Nat.mul_comm (rs[a]).1.length (rs[a]).2
    omega
theorem Two.next {rs ss : List (List Nat × Nat)} {a b u v m : Nat} (t : Two rs ss a b u v) {p q : List Nat × Nat} (hp : rs[a]? = some p) (hq : ss[b]? = some q) (pos1 : ∀ q ∈ rs, q.1 ≠ [] ∧ 0 < q.2) (pos2 : ∀ q ∈ ss, q.1 ≠ [] ∧ 0 < q.2)
    (hm1 : u + m ≤ p.1.length * p.2) (hm2 : v + m ≤ q.1.length * q.2) (he : seg p.1 u m = seg q.1 v m) :
    Two rs ss (if u + m = p.1.length * p.2 then a + 1 else a) (if v + m = q.1.length * q.2 then b + 1 else b) (if u + m = p.1.length * p.2 then 0 else u + m) (if v + m = q.1.length * q.2 then 0 else v + m) := by
  have ha : a < rs.length := (List.getElem?_eq_some_iff.mp hp).1
  have hb : b < ss.length := (List.getElem?_eq_some_iff.mp hq).1
  have ne1 := pos1 p (List.mem_of_getElem? hp)
  have ne2 := pos2 q (List.mem_of_getElem? hq)
  have l1 : 0 < p.1.length := List.length_pos_iff.mpr ne1.1
  have l2 : 0 < q.1.length := List.length_pos_iff.mpr ne2.1
  have t1 := txt_take hp
  have t2 := txt_take hq
  have P1 : ∀ (c : Prop) [Decidable c], (c ↔ u + m = p.1.length * p.2) → (txt (rs.take (if c then a + 1 else a))).length + (if c then 0 else u + m) = (txt (rs.take a)).length + (u + m) := by
    intro c _ hc
    by_cases d : c
    · rw [if_pos d, if_pos d, t1]; have := hc.mp d; omega
    · rw [if_neg d, if_neg d]
  have P2 : (txt (ss.take (if v + m = q.1.length * q.2 then b + 1 else b))).length + (if v + m = q.1.length * q.2 then 0 else v + m) = (txt (ss.take b)).length + (v + m) := by
    by_cases d : v + m = q.1.length * q.2
    · rw [if_pos d, if_pos d, t2]; omega
    · rw [if_neg d, if_neg d]
  have pp := t.pos
  have first : ∀ (rs : List (List Nat × Nat)) (k : Nat) (r : List Nat × Nat), (∀ q ∈ rs, q.1 ≠ [] ∧ 0 < q.2) → rs[k]? = some r → 0 < r.1.length * r.2 := fun rs k r hpos hr => by
    have := hpos r (List.mem_of_getElem? hr)
    exact Nat.mul_pos (List.length_pos_iff.mpr this.1) this.2
  refine ⟨by split <;> omega, by split <;> omega, by rw [P1 _ Iff.rfl, P2]; omega, ?_, ?_, ?_, ?_, ?_⟩
  · intro r hr
    by_cases d : u + m = p.1.length * p.2
    · rw [if_pos d] at hr ⊢
      exact first rs _ r pos1 hr
    · rw [if_neg d] at hr ⊢
      rw [hp] at hr
      cases hr
      omega
  · intro r hr
    by_cases d : v + m = q.1.length * q.2
    · rw [if_pos d] at hr ⊢
      exact first ss _ r pos2 hr
    · rw [if_neg d] at hr ⊢
      rw [hq] at hr
      cases hr
      omega
  · intro hr
    by_cases d : u + m = p.1.length * p.2
    · rw [if_pos d]
    · rw [if_neg d] at hr; omega
  · intro hr
    by_cases d : v + m = q.1.length * q.2
    · rw [if_pos d]
    · rw [if_neg d] at hr; omega
  · rw [P1 _ Iff.rfl, ← Nat.add_assoc, take_more t.eq, txt_seg hp l1 hm1]
    have e2 : (txt (rs.take a)).length + u = (txt (ss.take b)).length + v := pp
    rw [e2, txt_seg hq l2 hm2]
    exact he
theorem Two.ne {rs ss : List (List Nat × Nat)} {a b u v m : Nat} (t : Two rs ss a b u v) {p q : List Nat × Nat} (hp : rs[a]? = some p) (hq : ss[b]? = some q) (l1 : 0 < p.1.length) (l2 : 0 < q.1.length)
    (hm1 : u + m ≤ p.1.length * p.2) (hm2 : v + m ≤ q.1.length * q.2) (he : seg p.1 u m ≠ seg q.1 v m) : txt rs ≠ txt ss := fun e => he (by
  rw [← txt_seg hp l1 hm1, ← txt_seg hq l2 hm2, e, t.pos])
section
variable {h : Mh} {Q : MV → Mh → Prop} {E : Exn → Mh → Prop}
theorem items_e {l1 l2 : Nat} {rs ss : List (List Nat × Nat)} (h1 : h[l1]? = some (.lst (rs.map enR))) (h2 : h[l2]? = some (.lst (ss.map enR))) (o1 : RunsOk rs) (o2 : RunsOk ss) (hl : (txt rs).length = (txt ss).length) :
    F_same_items [.ref l1, .ref l2] h = some (.ok (.bl (decide (txt rs = txt ss))) h) := by
  refine wm_eq ?_
  have pos1 : ∀ q ∈ rs, q.1 ≠ [] ∧ 0 < q.2 := fun q hq => ⟨(o1.el q hq).1, (o1.el q hq).2.1⟩
  have pos2 : ∀ q ∈ ss, q.1 ≠ [] ∧ 0 < q.2 := fun q hq => ⟨(o2.el q hq).1, (o2.el q hq).2.1⟩
  have f1 := o1.few
  have f2 := o2.few
  unfold F_same_items
  rw [wm_fn]
  refine ⟨rfl, ?_⟩
  unfold B_same_items
  have ln1 : ∀ (Q : MV → Mh → Prop) (E : Exn → Mh → Prop), Wm (mLen [.ref l1] h) Q E = Q (.int (rs.length : Nat)) h := fun Q E => by simp [mLen, seqv, tpv, lsv, h1]
  refine ws_cutP (fun g h' => h' = h ∧ ∃ u6 u7 u8 u9 u10 u11, g = [some (.ref l1), some (.ref l2), some (.int 0), some (.int 0), some (.int 0), some (.int 0), u6, u7, u8, u9, u10, u11]) (fun P kp => ?_) ?_
  · simp only [sAsg4, xC, ws_bs, wm_ok]
    exact kp _ _ ⟨rfl, _, _, _, _, _, _, rfl⟩
  rintro _ _ ⟨rfl, u6, u7, u8, u9, u10, u11, rfl⟩
  rename_i hh
  refine ws_cutP (fun g h' => h' = hh ∧ txt rs = txt ss ∧ ∃ u2 u3 u4 u5 u6 u7 u8 u9 u10 u11, g = [some (.ref l1), some (.ref l2), u2, u3, u4, u5, u6, u7, u8, u9, u10, u11]) (fun P kp => ?_) ?_
  · refine while_inv (fun m g h' => h' = hh ∧ ∃ a b u v : Nat, m = (rs.length - a) + (ss.length - b) ∧ Two rs ss a b u v ∧ ∃ u6 u7 u8 u9 u10 u11, g = [some (.ref l1), some (.ref l2), some (.int (a : Nat)), some (.int (b : Nat)), some (.int (u : Nat)), some (.int (v : Nat)), u6, u7, u8, u9, u10, u11]) (rs.length + ss.length) (by omega) ⟨rfl, 0, 0, 0, 0, by omega, ⟨Nat.zero_le _, Nat.zero_le _, rfl, fun q hq => ?_, fun q hq => ?_, fun _ => rfl, fun _ => rfl, by simp [txt_nil]⟩, _, _, _, _, _, _, rfl⟩ ?_
    · have := pos1 q (List.mem_of_getElem? hq)
      exact Nat.mul_pos (List.length_pos_iff.mpr this.1) this.2
    · have := pos2 q (List.mem_of_getElem? hq)
      exact Nat.mul_pos (List.length_pos_iff.mpr this.1) this.2
    · rintro m g h' ⟨rfl, a, b, u, v, em, t, u6, u7, u8, u9, u10, u11, rfl⟩
      simp only [tsb, x1, x2, xCons, xVar, xNil, wm_bd, wm_ok, wm_pu, List.getElem?_cons_zero, List.getElem?_cons_succ, ln1, ltI]
      by_cases ha : a < rs.length
      · have ha2 : (a : Int) < (rs.length : Nat) := by omega
        have hb := t.inside hl ha
        have hp : rs[a]? = some rs[a] := List.getElem?_eq_getElem ha
        have hq : ss[b]? = some ss[b] := List.getElem?_eq_getElem hb
        generalize rs[a] = p at hp
        generalize ss[b] = q at hq
        obtain ⟨p1, p2, p3, p4⟩ := o1.el p (List.mem_of_getElem? hp)
        obtain ⟨q1, q2, q3, q4⟩ := o2.el q (List.mem_of_getElem? hq)
        have l1p : 0 < p.1.length := List.length_pos_iff.mpr p1
        have l1q : 0 < q.1.length := List.length_pos_iff.mpr q1
        have hu := t.u_ p hp
        have hv := t.v_ q hq
        simp only [ha2, decide_true, if_true]
        have lz1 : p.1.length ≤ 16000000 := by omega
        have lz2 : q.1.length ≤ 16000000 := by omega
        have l60 : p.1.length < 2 ^ 60 := by omega
        have l61 : q.1.length < 2 ^ 60 := by omega
        have hm1 : u + min (p.1.length * p.2 - u) (q.1.length * q.2 - v) ≤ p.1.length * p.2 := by omega
        have hm2 : v + min (p.1.length * p.2 - u) (q.1.length * q.2 - v) ≤ q.1.length * q.2 := by omega
        have hmx : u + min (p.1.length * p.2 - u) (q.1.length * q.2 - v) = p.1.length * p.2 ∨ v + min (p.1.length * p.2 - u) (q.1.length * q.2 - v) = q.1.length * q.2 := by omega
        refine ws_cutP (fun g h2 => h2 = h' ∧ g = [some (.ref l1), some (.ref l2), some (.int (a : Nat)), some (.int (b : Nat)), some (.int (u : Nat)), some (.int (v : Nat)), some (.str (st p.1)), some (.int (p.2 : Nat)), u8, u9, u10, u11]) (fun P kp => ?_) ?_
        · simp only [sAsg, ws_bs, x2, xVar, wm_bd, wm_ok, List.getElem?_cons_zero, List.getElem?_cons_succ, at_w h1 hp]
          exact kp _ _ ⟨rfl, rfl⟩
        rintro _ h' ⟨rfl, rfl⟩
        refine ws_cutP (fun g h2 => h2 = h' ∧ g = [some (.ref l1), some (.ref l2), some (.int (a : Nat)), some (.int (b : Nat)), some (.int (u : Nat)), some (.int (v : Nat)), some (.str (st p.1)), some (.int (p.2 : Nat)), some (.str (st q.1)), some (.int (q.2 : Nat)), u10, u11]) (fun P kp => ?_) ?_
        · simp only [sAsg, ws_bs, x2, xVar, wm_bd, wm_ok, List.getElem?_cons_zero, List.getElem?_cons_succ, at_w h2 hq]
          exact kp _ _ ⟨rfl, rfl⟩
        rintro _ h' ⟨rfl, rfl⟩
        refine ws_cutP (fun g h2 => h2 = h' ∧ g = [some (.ref l1), some (.ref l2), some (.int (a : Nat)), some (.int (b : Nat)), some (.int (u : Nat)), some (.int (v : Nat)), some (.str (st p.1)), some (.int (p.2 : Nat)), some (.str (st q.1)), some (.int (q.2 : Nat)), some (.int ((min (p.1.length * p.2 - u) (q.1.length * q.2 - v) : Nat) : Int)), u11]) (fun P kp => ?_) ?_
        · simp only [sSet, ws_bs, x1, xCons, x2, xVar, xNil, wm_bd, wm_ok, wm_pu, List.getElem?_cons_zero, List.getElem?_cons_succ, len_st lz1, len_st lz2, mulN' l60, mulN' l61, subN (show u ≤ p.1.length * p.2 by omega), subN (show v ≤ q.1.length * q.2 by omega), minN, ws_nx]
          exact kp _ _ ⟨rfl, rfl⟩
        rintro _ h' ⟨rfl, rfl⟩
        generalize hM : min (p.1.length * p.2 - u) (q.1.length * q.2 - v) = M at hm1 hm2 hmx ⊢
        refine ws_cutP (fun g h2 => h2 = h' ∧ g = [some (.ref l1), some (.ref l2), some (.int (a : Nat)), some (.int (b : Nat)), some (.int (u : Nat)), some (.int (v : Nat)), some (.str (st p.1)), some (.int (p.2 : Nat)), some (.str (st q.1)), some (.int (q.2 : Nat)), some (.int (M : Nat)), some (.int ((min M (p.1.length + q.1.length) : Nat) : Int))]) (fun P kp => ?_) ?_
        · simp only [sSet, ws_bs, x1, xCons, x2, xVar, xNil, wm_bd, wm_ok, wm_pu, List.getElem?_cons_zero, List.getElem?_cons_succ, len_st lz1, len_st lz2, addN, minN, ws_nx]
          exact kp _ _ ⟨rfl, rfl⟩
        rintro _ h' ⟨rfl, rfl⟩
        by_cases same : seg p.1 u M = seg q.1 v M
        · refine ws_skip ?_ ?_
          · simp only [tsb, x1, xCons, x2, xVar, xNil, wm_bd, wm_ok, wm_pu, List.getElem?_cons_zero, List.getElem?_cons_succ, stretch_w l1p p4 (show min M (p.1.length + q.1.length) ≤ 4000 by omega), stretch_w l1q q4 (show min M (p.1.length + q.1.length) ≤ 4000 by omega), neSS]
            have := (seg_agree l1p l1q).mp same
            simp [this]
          · refine ws_cutP (fun g h2 => h2 = h' ∧ g = [some (.ref l1), some (.ref l2), some (.int (a : Nat)), some (.int (b : Nat)), some (.int ((u + M : Nat) : Int)), some (.int (v : Nat)), some (.str (st p.1)), some (.int (p.2 : Nat)), some (.str (st q.1)), some (.int (q.2 : Nat)), some (.int (M : Nat)), some (.int ((min M (p.1.length + q.1.length) : Nat) : Int))]) (fun P kp => ?_) ?_
            · simp only [sSet, ws_bs, x2, xVar, wm_bd, wm_ok, List.getElem?_cons_zero, List.getElem?_cons_succ, addN, ws_nx]
              exact kp _ _ ⟨rfl, rfl⟩
            rintro _ h' ⟨rfl, rfl⟩
            refine ws_cutP (fun g h2 => h2 = h' ∧ g = [some (.ref l1), some (.ref l2), some (.int (a : Nat)), some (.int (b : Nat)), some (.int ((u + M : Nat) : Int)), some (.int ((v + M : Nat) : Int)), some (.str (st p.1)), some (.int (p.2 : Nat)), some (.str (st q.1)), some (.int (q.2 : Nat)), some (.int (M : Nat)), some (.int ((min M (p.1.length + q.1.length) : Nat) : Int))]) (fun P kp => ?_) ?_
            · simp only [sSet, ws_bs, x2, xVar, wm_bd, wm_ok, List.getElem?_cons_zero, List.getElem?_cons_succ, addN, ws_nx]
              exact kp _ _ ⟨rfl, rfl⟩
            rintro _ h' ⟨rfl, rfl⟩
            have eqN : ∀ (x y : Nat) (Q : MV → Mh → Prop) (E : Exn → Mh → Prop), Wm (mEqS (.int (x : Nat)) (.int (y : Nat)) h') Q E = Q (.bl (decide (x = y))) h' := fun x y Q E => by
              rw [eqI]
              congr 2
              rw [decide_eq_decide]
              omega
            refine ws_cutP (fun g h2 => h2 = h' ∧ g = [some (.ref l1), some (.ref l2), some (.int (((if u + M = p.1.length * p.2 then a + 1 else a) : Nat) : Int)), some (.int (b : Nat)), some (.int (((if u + M = p.1.length * p.2 then 0 else u + M) : Nat) : Int)), some (.int ((v + M : Nat) : Int)), some (.str (st p.1)), some (.int (p.2 : Nat)), some (.str (st q.1)), some (.int (q.2 : Nat)), some (.int (M : Nat)), some (.int ((min M (p.1.length + q.1.length) : Nat) : Int))]) (fun P kp => ?_) ?_
            · by_cases d : u + M = p.1.length * p.2
              · refine ws_ifT ?_ ?_
                · simp only [tsb, x1, xCons, x2, xVar, xNil, wm_bd, wm_ok, wm_pu, List.getElem?_cons_zero, List.getElem?_cons_succ, len_st lz1, mulN' l60, eqN, decide_eq_true d, and_self]
                · simp only [sPar, ws_bs, xCons, x2, xVar, xC, xNil, wm_bd, wm_ok, wm_pu, List.getElem?_cons_zero, List.getElem?_cons_succ, addN1, ws_nx]
                  refine kp _ _ ⟨rfl, ?_⟩
                  rw [if_pos d, if_pos d]
                  rfl
              · refine ws_ifF ?_ (kp _ _ ⟨rfl, by rw [if_neg d, if_neg d]⟩)
                simp only [tsb, x1, xCons, x2, xVar, xNil, wm_bd, wm_ok, wm_pu, List.getElem?_cons_zero, List.getElem?_cons_succ, len_st lz1, mulN' l60, eqN, decide_eq_false d, and_self]
            rintro _ h' ⟨rfl, rfl⟩
            have tn := t.next hp hq pos1 pos2 hm1 hm2 same
            have fin : ∀ g : Sg, g = [some (.ref l1), some (.ref l2), some (.int (((if u + M = p.1.length * p.2 then a + 1 else a) : Nat) : Int)), some (.int (((if v + M = q.1.length * q.2 then b + 1 else b) : Nat) : Int)), some (.int (((if u + M = p.1.length * p.2 then 0 else u + M) : Nat) : Int)), some (.int (((if v + M = q.1.length * q.2 then 0 else v + M) : Nat) : Int)), some (.str (st p.1)), some (.int (p.2 : Nat)), some (.str (st q.1)), some (.int (q.2 : Nat)), some (.int (M : Nat)), some (.int ((min M (p.1.length + q.1.length) : Nat) : Int))] → ∃ l, l < m ∧ h' = h' ∧ ∃ a b u v : Nat, l = (rs.length - a) + (ss.length - b) ∧ Two rs ss a b u v ∧ ∃ u6 u7 u8 u9 u10 u11, g = [some (.ref l1), some (.ref l2), some (.int (a : Nat)), some (.int (b : Nat)), some (.int (u : Nat)), some (.int (v : Nat)), u6, u7, u8, u9, u10, u11] := by
              rintro g rfl
              refine ⟨_, ?_, rfl, _, _, _, _, rfl, tn, _, _, _, _, _, _, rfl⟩
              rcases hmx with d | d
              · rw [if_pos d]
                split <;> omega
              · rw [if_pos d]
                split <;> omega
            by_cases d : v + M = q.1.length * q.2
            · refine ws_ifT ?_ ?_
              · simp only [tsb, x1, xCons, x2, xVar, xNil, wm_bd, wm_ok, wm_pu, List.getElem?_cons_zero, List.getElem?_cons_succ, len_st lz2, mulN' l61, eqN, decide_eq_true d, and_self]
              · simp only [sPar, ws_bs, xCons, x2, xVar, xC, xNil, wm_bd, wm_ok, wm_pu, List.getElem?_cons_zero, List.getElem?_cons_succ, addN1, ws_nx]
                refine Exists.elim (fin _ ?_) (fun l z => ⟨l, z.1, trivial, z.2.2⟩)
                rw [if_pos d, if_pos d]
                rfl
            · refine ws_ifF ?_ (fin _ (by rw [if_neg d, if_neg d]))
              simp only [tsb, x1, xCons, x2, xVar, xNil, wm_bd, wm_ok, wm_pu, List.getElem?_cons_zero, List.getElem?_cons_succ, len_st lz2, mulN' l61, eqN, decide_eq_false d, and_self]
        · have ne := t.ne hp hq l1p l1q hm1 hm2 same
          rw [ws_seq]
          refine ws_ifT ?_ ?_
          · simp only [tsb, x1, xCons, x2, xVar, xNil, wm_bd, wm_ok, wm_pu, List.getElem?_cons_zero, List.getElem?_cons_succ, stretch_w l1p p4 (show min M (p.1.length + q.1.length) ≤ 4000 by omega), stretch_w l1q q4 (show min M (p.1.length + q.1.length) ≤ 4000 by omega), neSS]
            have := fun e => same ((seg_agree l1p l1q).mpr e)
            simp [st_inj]
            exact this
          · simp only [sRet, xC, ws_bs, wm_ok, ws_rt]
            simp [ne]
      · have ha2 : ¬ (a : Int) < (rs.length : Nat) := by omega
        have ea : a = rs.length := by have := t.a_; omega
        simp only [ha2, decide_false, Bool.false_eq_true, if_false, sNop, ws_nx]
        refine kp _ _ ⟨rfl, ?_, _, _, _, _, _, _, _, _, _, _, rfl⟩
        have e := t.eq
        rw [t.u0 ea, ea, List.take_length, Nat.add_zero, List.take_length] at e
        rw [hl, List.take_length] at e
        exact e
  rintro _ _ ⟨rfl, e, u2, u3, u4, u5, u6, u7, u8, u9, u10, u11, rfl⟩
  simp only [sRet, xC, ws_bs, wm_ok, ws_rt, e, decide_true, and_self]
end
section
variable {h : Mh} {Q : MV → Mh → Prop} {E : Exn → Mh → Prop}
theorem eq_e {v w : MV} {rs ss : List (List Nat × Nat)} (m : RepAt h v rs) (m2 : RepAt h w ss) : F_Repeats___eq__ [v, w] h = some (.ok (.bl (decide (txt rs = txt ss))) h) := by
  obtain ⟨l1, e1, f1⟩ := m.fld
  obtain ⟨l2, e2, f2⟩ := m2.fld
  obtain ⟨gs, ia⟩ := m2.ins
  refine wm_eq ?_
  unfold F_Repeats___eq__
  rw [wm_fn]
  refine ⟨rfl, ?_⟩
  show Ws (B_Repeats___eq__ [some (v), some (w)] h) _ _ _ _ _
  unfold B_Repeats___eq__
  have io : ∀ cs : List Str, Str.ofString "Repeats" ∈ cs → mIsO "Repeats" cs w h = some (.ok (.bl true) h) := fun cs hc => by
    unfold mIsO
    rw [ia]
    dsimp only
    rw [if_pos hc]
    rfl
  by_cases hl : (txt rs).length = (txt ss).length
  · refine ws_skip ?_ ?_
    · simp only [tOrM, tNoM, tst, tsb, x1, x2, xVar, wm_bd, wm_ok, wm_pu, List.getElem?_cons_zero, List.getElem?_cons_succ, io _ (show Str.ofString "Repeats" ∈ (["Runs", "Repeats"] : List Str) by simp), truM, Option.map_some, Bool.not_true, Bool.false_eq_true, if_false, length_w m, length_w m2, neI]
      simp [hl]
    · simp only [sRet, ws_bs, x1, xCons, x2, xVar, xNil, wm_bd, wm_ok, wm_pu, List.getElem?_cons_zero, List.getElem?_cons_succ, f1, f2, items_e e1 e2 m.ok m2.ok hl, ws_rt, and_self]
  · rw [ws_seq]
    refine ws_ifT ?_ ?_
    · simp only [tOrM, tNoM, tst, tsb, x1, x2, xVar, wm_bd, wm_ok, wm_pu, List.getElem?_cons_zero, List.getElem?_cons_succ, io _ (show Str.ofString "Repeats" ∈ (["Runs", "Repeats"] : List Str) by simp), truM, Option.map_some, Bool.not_true, Bool.false_eq_true, if_false, length_w m, length_w m2, neI]
      have : ¬ (((txt rs).length : Int) = (txt ss).length) := by omega
      simp [this]
    · have : txt rs ≠ txt ss := fun e => hl (by rw [e])
      simp only [sRet, xC, ws_bs, wm_ok, ws_rt, decide_eq_false this, and_self]
theorem eqO_w {v w : MV} {rs ss : List (List Nat × Nat)} (m : RepAt h v rs) (m2 : RepAt h w ss) : Wm (mEqO "Repeats" F_Repeats___eq__ v w h) Q E = Q (.bl (decide (txt rs = txt ss))) h := by
  obtain ⟨gs, ia⟩ := m.ins
  obtain ⟨gs2, ia2⟩ := m2.ins
  have e : mEqO "Repeats" F_Repeats___eq__ v w h = some (.ok (.bl (decide (txt rs = txt ss))) h) := by
    simp only [mEqO, ia, ia2, and_self, if_true, eq_e m m2]
  rw [e, wm_ok]
end

end Lw
namespace Lw
open PySem PySem.Spec PyProof.Rows L2 Ob Mi StX
/-! ### a + b -/
section
variable {h : Mh} {Q : MV → Mh → Prop} {E : Exn → Mh → Prop}
theorem own2_w {v w : MV} {rs : List (List Nat × Nat)} {B : MV → Mh → Bool} {F : List MV → M MV} (m : RepAt h v rs) (hB : B w h = true) (k : Wm (F [v, w] h) Q NE) : Wm (mOwn2 "Repeats" B F v w h) Q E := by
  obtain ⟨gs, ia⟩ := m.ins
  obtain ⟨a, h', e, q⟩ := k.out
  have e2 : mOwn2 "Repeats" B F v w h = some (.ok a h') := by simp only [mOwn2, ia, hB, and_self, if_true, e]
  rw [e2, wm_ok]
  exact q
theorem add_w {v w : MV} {rs ss : List (List Nat × Nat)} (m : RepAt h v rs) (m2 : RepAt h w ss) (hn : rs.length + ss.length ≤ 1000) (hb : (txt rs).length + (txt ss).length < 2 ^ 400)
    (q : ∀ v' us h', RepAt h' v' us → txt us = txt rs ++ txt ss → us.length ≤ rs.length + ss.length → h.length ≤ h'.length → (∀ j, j < h.length → h'[j]? = h[j]?) → Q v' h') : Wm (mOwn2 "Repeats" (bIns "Repeats") F_Repeats___add__ v w h) Q E := by
  obtain ⟨l1, e1, f1⟩ := m.fld
  obtain ⟨l2, e2, f2⟩ := m2.fld
  obtain ⟨gs2, ia2⟩ := m2.ins
  refine own2_w m (by simp [bIns, ia2]) ?_
  unfold F_Repeats___add__
  rw [wm_fn]
  refine ⟨rfl, ?_⟩
  show Ws (B_Repeats___add__ [some (v), some (w)] h) _ _ _ _ _
  unfold B_Repeats___add__
  have s1 : seqv (.ref l1) h = some (rs.map enR) := by simp [seqv, tpv, lsv, e1]
  have s2 : seqv (.ref l2) h = some (ss.map enR) := by simp [seqv, tpv, lsv, e2]
  have st1 : (xStar (x1 (mFld ["Repeats"] "runs") (xVar 0)) (xStar (x1 (mFld ["Repeats"] "runs") (xVar 1)) xNil)) [some (v), some (w)] h = some (.ok ((rs ++ ss).map enR) h) := by
    simp [xStar, x1, xVar, bd, f1, f2, s1, s2, pu, xNil]
  have po : PairsOk (rs ++ ss) := ⟨fun z hz => by
    rcases List.mem_append.mp hz with hz | hz
    · exact ⟨(m.ok.el z hz).2.2.1, (m.ok.el z hz).2.2.2⟩
    · exact ⟨(m2.ok.el z hz).2.2.1, (m2.ok.el z hz).2.2.2⟩, by simp; omega, by rw [txt_app, List.length_append]; exact hb⟩
  simp only [sRet, ws_bs, x1, xCons, x2, xNil, wm_bd, wm_ok, wm_pu, st1]
  rw [lst1 (by simp; omega)]
  refine made_w (ps := rs ++ ss) (.inl rfl) po fun v' us h' r a1 a2 a3 a4 => ?_
  rw [ws_rt]
  exact q v' us h' r (by rw [a1, txt_app]) (by simpa using a2) a3 a4
end

end Lw
namespace Lw
open PySem PySem.Spec PyProof.Rows L2 Ob Mi StX
/-! ### pairs drawn, their plain text -/
theorem tx_lca {z : Str} (h : Tx z) : LcA z.cps.toList := h
section
variable {h : Mh} {Q : MV → Mh → Prop} {E : Exn → Mh → Prop}
theorem rng_ok {n : Int} (h0 : 0 ≤ n) (h1 : n < 1000000) : Wm (iRange1 [.int n] h) (fun it h' => it = itC (rngM 0 n.toNat) ∧ h' = h) NE := by
  have hn2 : -(2 ^ 62) ≤ n ∧ n < 2 ^ 62 := by omega
  simp only [iRange1, if_pos hn2, wm_ok, and_self]
theorem pairs_w {b : Nat} {m t : Int} (hb : Bg h b) (h0 : 0 ≤ m) (h1 : m ≤ 1000) (t0 : 0 ≤ t) (t1 : t ≤ 2000000000000000000000000000000000000000000000000000000000000) (k : ∀ (ps : List (List Nat × Nat)) h', (∀ q ∈ ps, LcA q.1 ∧ q.1.length ≤ 4 ∧ (q.2 : Int) ≤ t) → (ps.length : Int) ≤ m → Kp b h h' → Q (.tl (ps.map enR)) h') : Wm (F__law_pairs [.ref b, .int m, .int t] h) Q E := by
  unfold F__law_pairs
  rw [wm_fn]
  refine ⟨rfl, ?_⟩
  unfold B__law_pairs
  have tl : ∀ (l : List MV) (h : Mh) (Q : MV → Mh → Prop) (E : Exn → Mh → Prop), Wm (mkl false l h) Q E = Q (.tl l) h := fun _ _ _ _ => rfl
  simp only [sRet, ws_bs, xLc, x1, xCons, x2, xVar, xC, xNil, wm_bd, wm_ok, wm_pu, List.replicate, List.map_cons, List.map_nil, List.cons_append, List.nil_append, List.getElem?_cons_zero, List.getElem?_cons_succ, addI]
  refine take_w hb (by omega) (by omega) fun n h1 n0 n1 k1 => ?_
  have hn2 : -(2 ^ 62) ≤ n ∧ n < 2 ^ 62 := by omega
  simp only [wm_bd, wm_ok, wm_pu, iRange1, if_pos hn2]
  refine comp_inv (fun i acc h2 => ∃ ps : List (List Nat × Nat), acc = ps.map enR ∧ ps.length = i ∧ (∀ q ∈ ps, LcA q.1 ∧ q.1.length ≤ 4 ∧ (q.2 : Int) ≤ t) ∧ Kp b h h2) (by simp [rngM]; omega) ⟨[], rfl, rfl, by simp, k1⟩ ?_ ?_
  · rintro i x acc h2 e ⟨ps, rfl, hi, hc, k2⟩
    refine ⟨_, rfl, ?_⟩
    simp only [cYes, wm_ok, if_true, x1, xCons, x2, xVar, xC, xNil, wm_bd, wm_pu, wipM, List.set_cons_zero, List.set_cons_succ, List.getElem?_cons_zero, List.getElem?_cons_succ, addI]
    refine text_w k2.bag (by omega) (by omega) fun z h3 hz z4 k3 => ?_
    try simp only [wm_bd, wm_ok, wm_pu]
    refine take_w k3.bag (by omega) (by omega) fun m2 h4 m0 m1 k4 => ?_
    simp only [wm_bd, wm_ok, wm_pu, tup1, List.length_cons, List.length_nil, Nat.reduceAdd, Nat.reduceLeDiff]
    obtain ⟨m3, rfl⟩ : ∃ m3 : Nat, m2 = m3 := ⟨m2.toNat, by omega⟩
    refine ⟨ps ++ [(z.cps.toList, m3)], by rw [List.map_append]; rfl, by simp [hi], ?_, (k2.trans k3).trans k4⟩
    intro q hq
    rcases List.mem_append.mp hq with hq | hq
    · exact hc q hq
    · rw [List.mem_singleton] at hq
      subst hq
      exact ⟨hz, by simp; omega, by show (m3 : Int) ≤ t; omega⟩
  · rintro acc h2 ⟨ps, rfl, hi, hc, k2⟩
    rw [tl, ws_rt]
    refine k ps h2 hc ?_ k2
    simp [rngM] at hi
    omega
end

end Lw
namespace Lw
open PySem PySem.Spec PyProof.Rows L2 Ob Mi StX
section
variable {h : Mh} {Q : MV → Mh → Prop} {E : Exn → Mh → Prop}
theorem rng_at {n i : Nat} {v : MV} (e : (rngM 0 n)[i]? = some v) : v = .int (i : Nat) ∧ i < n := by
  have hi : i < n := by simpa [rngM] using (List.getElem?_eq_some_iff.mp e).1
  simp [rngM, hi] at e
  exact ⟨e.symm, hi⟩
theorem bg_old {b : Nat} {h2 : Mh} (g : Bg h b) (k : ∀ j, j < h.length → h2[j]? = h[j]?) : Bg h2 b := by
  obtain ⟨x, y, z, e, q⟩ := g
  exact ⟨x, y, z, by rw [k b (at_lt e)]; exact e, q⟩
theorem neR_w {v w : MV} {n : Bool} {rs ss : List (List Nat × Nat)} (m : RepAt h v rs) (m2 : RepAt h w ss) : Wm (mEqA "Repeats" ["Repeats"] n F_Repeats___eq__ v w h) Q E = Q (.bl (n ^^ decide (txt rs = txt ss))) h := by
  obtain ⟨gs, ia⟩ := m.ins
  obtain ⟨gs2, ia2⟩ := m2.ins
  have e : mEqA "Repeats" ["Repeats"] n F_Repeats___eq__ v w h = some (.ok (.bl (n ^^ decide (txt rs = txt ss))) h) := by
    simp [mEqA, ia, ia2, secB, eq_e m m2]
  rw [e, wm_ok]
theorem meth_wA {m : Str} {F : List MV → M MV} {A : Sg → M MV} {As : Sg → M (List MV)} {g : Sg} (hA : Wm (A g h) (fun v h1 => (∃ rs, RepAt h1 v rs) ∧ Wm (As g h1) (fun xs h2 => Wm (F (v :: xs) h2) Q E) E) NE) (hm : m ≠ "runs") : Wm (xMeth "Repeats" m F A As g h) Q E := by
  obtain ⟨v, h1, e, ⟨rs, r⟩, w⟩ := hA.out
  have e1 := meth_w (Q := Q) (E := E) (F := F) (A := fun _ h => some (.ok v h)) (As := As) (g := g) r hm rfl
  have e2 : xMeth "Repeats" m F A As g h = xMeth "Repeats" m F (fun _ h => some (.ok v h)) As g h1 := by
    unfold xMeth bd
    rw [e]
  rw [e2, e1]
  exact w
/-- the lists are kept -/
def Kr (h h' : Mh) : Prop := ∀ v rs, RepAt h v rs → RepAt h' v rs
theorem Kr.rfl : Kr h h := fun _ _ m => m
theorem Kr.trans {h1 h2 : Mh} (a : Kr h h1) (b : Kr h1 h2) : Kr h h2 := fun v rs m => b v rs (a v rs m)
theorem kr_old {h' : Mh} (k : ∀ j, j < h.length → h'[j]? = h[j]?) : Kr h h' := fun _ _ m => m.old k
theorem kr_kp {h' : Mh} {b : Nat} (hb : Bg h b) (k : Kp b h h') : Kr h h' := fun _ _ m => m.kp hb k
theorem big400 : 1000 * TEN60 < 2 ^ 400 := by decide +kernel
theorem pow60 : Wm (mPow (.int 10) (.int 60) h) Q E = Q (.int (TEN60 : Nat)) h := by
  have e : mPow (.int 10) (.int 60) h = some (.ok (.int (TEN60 : Nat)) h) := by
    unfold mPow
    dsimp only
    rw [if_pos (by decide), show (10 : Int) ^ (60 : Int).toNat = ((TEN60 : Nat) : Int) by decide +kernel]
  rw [e, wm_ok]
theorem ne_bl {a b : Bool} : Wm (mNeS (.bl a) (.bl b) h) Q E = Q (.bl (a != b)) h := by cases a <;> cases b <;> rfl
theorem pow20 : Wm (mPow (.int 10) (.int 20) h) Q E = Q (.int ((10 ^ 20 : Nat) : Int)) h := by
  have e : mPow (.int 10) (.int 20) h = some (.ok (.int ((10 ^ 20 : Nat) : Int)) h) := by
    unfold mPow
    dsimp only
    rw [if_pos (by decide), show (10 : Int) ^ (20 : Int).toNat = ((10 ^ 20 : Nat) : Int) by decide +kernel]
  rw [e, wm_ok]
def chM (c : Nat) : MV := .str ⟨#[c]⟩
theorem eqv_refl_ints : ∀ l : List Int, PyData.eqvAll (l.map fun c => .int c) (l.map fun c => .int c) = true
  | [] => rfl
  | c :: l => by
    show ((c == c) && PyData.eqvAll _ _) = true
    rw [eqv_refl_ints l, beq_self_eq_true]
    rfl
theorem dt_ints {n : Nat} (l : List Int) : mapO (dt h (n + 1)) (l.map .int) = some (l.map fun c => .int c) := by
  induction l with
  | nil => rfl
  | cons c l ih =>
    rw [List.map_cons, List.map_cons]
    unfold mapO
    rw [ih]
    rfl
theorem eq_ints {l : List Int} : Wm (mEqS (.tl (l.map .int)) (.tl (l.map .int)) h) Q E = Q (.bl true) h := by
  have e : dt h 60 (.tl (l.map .int)) = some (.list (l.map fun c => .int c)) := by
    show (mapO (dt h (58 + 1)) _).map _ = _
    rw [dt_ints]
    rfl
  show Wm (match dt h 60 (.tl (l.map .int)), dt h 60 (.tl (l.map .int)) with | some d, some e => some (.ok (.bl (PyData.eqv d e)) h) | _, _ => none) Q E = _
  rw [e]
  show Q (.bl (PyData.eqvAll _ _)) h = _
  rw [eqv_refl_ints]
def zipL (xs ys : List MV) : List MV := List.zipWith (fun a b => MV.tup [a, b]) xs ys
theorem itZip_at {it it2 : MIt} {xs ys : List MV} {i : Nat} (e : it i h = some xs[i]?) (e2 : it2 i h = some ys[i]?) : itZip it it2 i h = some (zipL xs ys)[i]? := by
  unfold itZip zipL
  rw [e, e2, List.getElem?_zipWith]
  cases xs[i]? <;> cases ys[i]? <;> rfl
theorem zip_rt {r : Nat} {xs ys : List MV} {Q : MIt → Mh → Prop} (hr : h[r]? = some (.lst xs)) : Wm (Mi.iZip [.ref r, .tl ys] h) Q E = Q (itZip (itH r) (itC ys)) h := by
  have e : Mi.iZip [.ref r, .tl ys] h = some (.ok (itZip (itH r) (itC ys)) h) := by
    simp [Mi.iZip, iZipK, iKind, hr]
  rw [e, wm_ok]
theorem zip_rr {r r2 : Nat} {xs ys : List MV} {Q : MIt → Mh → Prop} (hr : h[r]? = some (.lst xs)) (hr2 : h[r2]? = some (.lst ys)) : Wm (Mi.iZip [.ref r, .ref r2] h) Q E = Q (itZip (itH r) (itH r2)) h := by
  have e : Mi.iZip [.ref r, .ref r2] h = some (.ok (itZip (itH r) (itH r2)) h) := by
    simp [Mi.iZip, iZipK, iKind, hr, hr2]
  rw [e, wm_ok]
theorem cut_tlD {xs : List MV} {i : Nat} (hi : i ≤ xs.length) : Wm (mCut false (.tl xs) (some (i : Int)) none h) Q E = Q (.tl (xs.drop i)) h := by
  have e2 : HT.sIx xs.length 0 (some (i : Int)) = i := by rw [HT.sIx_nat]; omega
  have e1 : cutL xs (some (i : Int)) none = xs.drop i := by
    unfold cutL
    rw [e2, HT.sIx_none, List.take_of_length_le (by simp)]
  simp [mCut, tpv, lsv, mkl, e1]
/-- places: numbers that rise from 0 to the length -/
def iN (p : Nat) : MV := .int (p : Nat)
structure Plc (P : List Nat) (L : Nat) : Prop where
  up : P.Pairwise (· ≤ ·)
  fst : P[0]? = some 0
  lst : P[P.length - 1]? = some L
  few : P.length ≤ 8
theorem zip_get {P : List Nat} {i : Nat} {v : MV} (e : (zipL (P.map iN) ((P.drop 1).map iN))[i]? = some v) : ∃ a b, P[i]? = some a ∧ P[i + 1]? = some b ∧ v = .tup [iN a, iN b] := by
  unfold zipL at e
  rw [List.getElem?_zipWith] at e
  rw [List.getElem?_map, List.getElem?_map, List.getElem?_drop] at e
  cases ha : P[i]? with
  | none => rw [ha] at e; cases e
  | some a =>
    cases hb : P[1 + i]? with
    | none => rw [ha, hb] at e; cases e
    | some b =>
      rw [ha, hb] at e
      cases e
      exact ⟨a, b, rfl, by rw [Nat.add_comm]; exact hb, rfl⟩
theorem Plc.le {P : List Nat} {L i a b : Nat} (p : Plc P L) (ha : P[i]? = some a) (hb : P[i + 1]? = some b) : a ≤ b ∧ b ≤ L := by
  obtain ⟨h1, e1⟩ := List.getElem?_eq_some_iff.mp ha
  obtain ⟨h2, e2⟩ := List.getElem?_eq_some_iff.mp hb
  obtain ⟨h3, e3⟩ := List.getElem?_eq_some_iff.mp p.lst
  have up := List.pairwise_iff_getElem.mp p.up
  refine ⟨by rw [← e1, ← e2]; exact up i (i + 1) h1 h2 (by omega), ?_⟩
  by_cases c : i + 1 = P.length - 1
  · have : P[i + 1] = P[P.length - 1] := by simp [c]
    rw [← e2, ← e3, this]
    exact Nat.le_refl _
  · rw [← e2, ← e3]
    exact up (i + 1) (P.length - 1) h2 h3 (by omega)
theorem zip_tl {xs ys : List MV} {Q : MIt → Mh → Prop} : Wm (iZip [.tl xs, .tl ys] h) Q E = Q (itZip (itC xs) (itC ys)) h := by
  simp [Mi.iZip, iZipK, iKind, tpv, lsv]
theorem sort_plc {cs : List Nat} {L : Nat} (hc : ∀ c ∈ cs, c ≤ L) (h6 : cs.length ≤ 6) : ∃ P : List Nat, sortZ ((([0] ++ cs) ++ [L]).map fun p : Nat => (p : Int)) = P.map (fun p : Nat => (p : Int)) ∧ Plc P L := by
  have pm := sortZ_perm ((([0] ++ cs) ++ [L]).map fun p : Nat => (p : Int))
  have up := sortZ_pair ((([0] ++ cs) ++ [L]).map fun p : Nat => (p : Int))
  generalize sortZ ((([0] ++ cs) ++ [L]).map fun p : Nat => (p : Int)) = zs at pm up
  have mem : ∀ z : Int, z ∈ zs ↔ ∃ c : Nat, c ∈ ([0] ++ cs) ++ [L] ∧ (c : Int) = z := fun z => by
    rw [pm.mem_iff, List.mem_map]
  have rg : ∀ z ∈ zs, 0 ≤ z ∧ z ≤ L := fun z hz => by
    obtain ⟨c, hc2, rfl⟩ := (mem z).mp hz
    simp only [List.mem_append, List.mem_singleton] at hc2
    rcases hc2 with (rfl | hc2) | rfl
    · omega
    · have := hc c hc2
      omega
    · omega
  have len : zs.length = cs.length + 2 := by rw [pm.length_eq]; simp
  have e : zs = (zs.map Int.toNat).map (fun p : Nat => (p : Int)) := by
    rw [List.map_map]
    refine (List.map_id zs).symm.trans (List.map_congr_left fun z hz => ?_)
    have := rg z hz
    show z = ((z.toNat : Nat) : Int)
    omega
  have pw := List.pairwise_iff_getElem.mp up
  refine ⟨zs.map Int.toNat, e, ?_, ?_, ?_, by simp; omega⟩
  · refine List.pairwise_map.mpr (up.imp fun {a b} hab => ?_)
    omega
  · obtain ⟨j, hj⟩ := List.getElem?_of_mem ((mem 0).mpr ⟨0, by simp, rfl⟩)
    obtain ⟨hj1, hj2⟩ := List.getElem?_eq_some_iff.mp hj
    have h0 : 0 < zs.length := by omega
    have z0 := rg _ (List.getElem_mem h0)
    have le : zs[0] ≤ 0 := by
      by_cases c : j = 0
      · subst c
        omega
      · have := pw 0 j h0 hj1 (by omega)
        omega
    rw [List.getElem?_map, List.getElem?_eq_getElem h0]
    show some (zs[0].toNat) = some 0
    congr 1
    omega
  · obtain ⟨j, hj⟩ := List.getElem?_of_mem ((mem L).mpr ⟨L, by simp, rfl⟩)
    obtain ⟨hj1, hj2⟩ := List.getElem?_eq_some_iff.mp hj
    have h0 : zs.length - 1 < zs.length := by omega
    have z0 := rg _ (List.getElem_mem h0)
    have le : (L : Int) ≤ zs[zs.length - 1] := by
      by_cases c : j = zs.length - 1
      · subst c
        omega
      · have := pw j (zs.length - 1) hj1 h0 (by omega)
        omega
    rw [List.length_map, List.getElem?_map, List.getElem?_eq_getElem h0]
    show some (zs[zs.length - 1].toNat) = some L
    congr 1
    omega
theorem cuts_w {b : Nat} {v : MV} {rs : List (List Nat × Nat)} (hb : Bg h b) (m : RepAt h v rs) (hz : (txt rs).length ≤ 100 * TEN60) (q : ∀ P h', Plc P (txt rs).length → Kp b h h' → Q (.tl (P.map iN)) h') : Wm (F__law_cuts [.ref b, v] h) Q E := by
  have tl : ∀ (l : List MV) (h : Mh) (Q : MV → Mh → Prop) (E : Exn → Mh → Prop), Wm (mkl false l h) Q E = Q (.tl l) h := fun _ _ _ _ => rfl
  unfold F__law_cuts
  rw [wm_fn]
  refine ⟨rfl, ?_⟩
  show Ws (B__law_cuts [some (.ref b), some (v), none, none] h) _ _ _ _ _
  unfold B__law_cuts
  refine ws_cutP (fun g h2 => ∃ cs : List Nat, (∀ c ∈ cs, c ≤ (txt rs).length) ∧ cs.length ≤ 6 ∧ Kp b h h2 ∧ g = [some (.ref b), some (v), some (.tl (cs.map iN)), none]) (fun P kp => ?_) ?_
  · simp only [sSet, ws_bs, xLc, x1, xCons, x2, xVar, xC, xNil, wm_bd, wm_ok, wm_pu, List.getElem?_cons_zero, List.getElem?_cons_succ]
    refine take_w hb (by omega) (by omega) fun n h1 n0 n1 k1 => ?_
    have hn2 : -(2 ^ 62) ≤ n ∧ n < 2 ^ 62 := by omega
    simp only [wm_bd, wm_ok, wm_pu, iRange1, if_pos hn2]
    refine comp_inv (fun i acc h2 => ∃ cs : List Nat, acc = cs.map iN ∧ cs.length = i ∧ (∀ c ∈ cs, c ≤ (txt rs).length) ∧ Kp b h h2) (by simp [rngM]; omega) ⟨[], rfl, rfl, by simp, k1⟩ ?_ ?_
    · rintro i x acc h2 e ⟨cs, rfl, hi, hc, k2⟩
      refine ⟨_, rfl, ?_⟩
      simp only [cYes, wm_ok, if_true, x1, xCons, x2, xVar, xC, xNil, wm_bd, wm_pu, wipM, List.set_cons_zero, List.set_cons_succ, List.getElem?_cons_zero, List.getElem?_cons_succ, length_w (m.kp hb k2), addN1]
      refine take_w k2.bag (by omega) (by unfold TEN60 at hz; omega) fun c h3 n3 n4 k3 => ?_
      obtain ⟨c, rfl⟩ : ∃ c' : Nat, c = c' := ⟨c.toNat, by omega⟩
      refine ⟨cs ++ [c], by rw [List.map_append]; rfl, by simp [hi], fun d hd => ?_, k2.trans k3⟩
      rcases List.mem_append.mp hd with qq | qq
      · exact hc d qq
      · rw [List.mem_singleton.mp qq]
        omega
    · rintro acc h2 ⟨cs, rfl, hi, hc, k2⟩
      simp [rngM] at hi
      rw [tl]
      exact kp _ _ ⟨cs, hc, by omega, k2, rfl⟩
  rintro _ h2 ⟨cs, hc, l6, k2, rfl⟩
  have m2 := m.kp hb k2
  obtain ⟨P, eP, pP⟩ := sort_plc hc l6
  have ad : ∀ (xs ys : List MV) (Q : MV → Mh → Prop) (E : Exn → Mh → Prop), xs.length + ys.length ≤ 1000 → Wm (mAdd false (.tl xs) (.tl ys) h2) Q E = Q (.tl (xs ++ ys)) h2 := fun xs ys Q E hh => by
    have : xs.length + ys.length ≤ sizeLine := by rw [sizeLine_eq]; omega
    simp [mAdd, lsw, lsv, tpv, this, mkl, List.length_append]
  have so : mSorted false [.tl (([.int 0] ++ cs.map iN) ++ [.int ((txt rs).length : Nat)])] h2 = some (.ok (.tl (P.map iN)) h2) := by
    have e1 : (([.int 0] ++ cs.map iN) ++ [.int ((txt rs).length : Nat)]) = ((([0] ++ cs) ++ [(txt rs).length]).map fun p : Nat => (p : Int)).map MV.int := by
      simp [iN, Function.comp_def]
    have e2 : (((([0] ++ cs) ++ [(txt rs).length]).map fun p : Nat => (p : Int))).length < 64 := by simp; omega
    have e3 : lsv (.tl (([.int 0] ++ cs.map iN) ++ [.int ((txt rs).length : Nat)])) h2 = some (([.int 0] ++ cs.map iN) ++ [.int ((txt rs).length : Nat)]) := rfl
    unfold mSorted
    dsimp only
    rw [e3]
    dsimp only
    rw [e1, intsOf_map]
    dsimp only
    rw [if_pos e2, eP]
    show some (Rs.ok (MV.tl ((P.map fun p : Nat => (p : Int)).map .int)) h2) = _
    rw [List.map_map]
    rfl
  simp only [sRet, ws_bs, x1, xCons, x2, xVar, xC, xNil, wm_bd, wm_ok, wm_pu, List.getElem?_cons_zero, List.getElem?_cons_succ, length_w m2, lst1, List.length_cons, List.length_nil, Nat.reduceAdd, Nat.reduceLeDiff]
  rw [ad _ _ _ _ (by simp; omega)]
  try simp only [wm_ok, wm_bd, wm_pu]
  rw [length_w m2, ad _ _ _ _ (by simp; omega)]
  try simp only [wm_ok, wm_bd, wm_pu]
  rw [so, wm_ok, ws_rt]
  exact q P h2 pP k2
abbrev Wz := MV × List (List Nat × Nat)
theorem seg_flat {x P : List Nat} {L : Nat} (pl : Plc P L) {ws : List Wz} (hl : ws.length + 1 = P.length) (s : ∀ (j a b : Nat) (w : Wz), P[j]? = some a → P[j + 1]? = some b → ws[j]? = some w → txt w.2 = (x.take b).drop a) :
    ∀ i a : Nat, P[i]? = some a → ((ws.take i).map fun w => txt w.2).flatten = x.take a
  | 0, a, ha => by
    rw [pl.fst] at ha
    cases ha
    simp
  | i + 1, b, hb => by
    have h1 : i + 1 < P.length := (List.getElem?_eq_some_iff.mp hb).1
    have h2 : i < P.length := by omega
    have h3 : i < ws.length := by omega
    have ha := List.getElem?_eq_getElem h2
    have hw := List.getElem?_eq_getElem h3
    have le := (pl.le ha hb).1
    have ih := seg_flat pl hl s i _ ha
    rw [List.take_add_one, hw, List.map_append, List.flatten_append, ih]
    show x.take P[i] ++ ([txt ws[i].2].flatten) = _
    rw [s i _ b _ ha hb hw, List.flatten_cons, List.flatten_nil, List.append_nil]
    have e : x.take P[i] = (x.take b).take P[i] := by rw [List.take_take, Nat.min_eq_left le]
    rw [e, List.take_append_drop]
theorem comp_ws {T : CT} {F : Sg → M MV} {g : Sg} {ws : List Wz} {Q : List MV → Mh → Prop} (l8 : ws.length ≤ 1000) (f : Wz → Nat) (step : ∀ w ∈ ws, ∃ g1, T w.1 g = some g1 ∧ Wm (F g1 h) (fun y h2 => y = .int (f w : Nat) ∧ h2 = h) NE) (k : Q ((ws.map fun w => ((f w : Nat) : Int)).map .int) h) : Wm (compN FUEL (itC (ws.map (·.1))) T cYes F g 0 [] h) Q E := by
  refine comp_invG (xs := ws.map (·.1)) (fun i acc h2 => h2 = h ∧ acc = ((ws.take i).map fun w => ((f w : Nat) : Int)).map .int) (fun i acc h2 _ => rfl) (by simp; omega) ⟨rfl, by simp⟩ ?_ ?_
  · rintro i x acc h2 ex ⟨rfl, rfl⟩
    rw [List.getElem?_map] at ex
    obtain ⟨w, ew, rfl⟩ := Option.map_eq_some_iff.mp ex
    obtain ⟨g1, e1, w1⟩ := step w (List.mem_of_getElem? ew)
    refine ⟨g1, e1, ?_⟩
    simp only [cYes, wm_ok, if_true]
    refine w1.mono (fun y h2 q => ⟨q.2, ?_⟩) (fun _ _ z => z)
    rw [q.1, List.take_add_one, ew, List.map_append, List.map_append]
    rfl
  · rintro acc h2 ⟨rfl, rfl⟩
    rw [List.length_map, List.take_length]
    exact k
theorem sum_cast (f : Wz → Nat) : ∀ ws : List Wz, (ws.map fun w => ((f w : Nat) : Int)).sum = (((ws.map f).sum : Nat) : Int)
  | [] => rfl
  | w :: ws => by rw [List.map_cons, List.sum_cons, sum_cast f ws, List.map_cons, List.sum_cons]; omega
theorem sum_len (ws : List Wz) {x : List Nat} (e : (ws.map fun w => txt w.2).flatten = x) : (ws.map fun w => (((txt w.2).length : Nat) : Int)).sum = ((x.length : Nat) : Int) := by
  rw [sum_cast fun w => (txt w.2).length, ← e, List.length_flatten, List.map_map]
  rfl
theorem sum_cnt (ws : List Wz) (c : Nat) {x : List Nat} (e : (ws.map fun w => txt w.2).flatten = x) : (ws.map fun w => (((txt w.2).count c : Nat) : Int)).sum = ((x.count c : Nat) : Int) := by
  rw [sum_cast fun w => (txt w.2).count c, ← e, List.count_flatten, List.map_map]
  rfl
def Old (h h' : Mh) : Prop := h.length ≤ h'.length ∧ ∀ j, j < h.length → h'[j]? = h[j]?
theorem Old.refl : Old h h := ⟨Nat.le_refl _, fun _ _ => rfl⟩
theorem Old.trans {h1 h2 : Mh} (a : Old h h1) (b : Old h1 h2) : Old h h2 := ⟨Nat.le_trans a.1 b.1, fun j hj => by rw [b.2 j (Nat.lt_of_lt_of_le hj a.1)]; exact a.2 j hj⟩
def WsOk (h : Mh) (k : Nat) (ws : List Wz) : Prop := ∀ w ∈ ws, RepAt h w.1 w.2 ∧ w.2.length ≤ k
theorem WsOk.old {k : Nat} {ws : List Wz} {h' : Mh} (o : WsOk h k ws) (a : Old h h') : WsOk h' k ws := fun w hw => ⟨(o w hw).1.old a.2, (o w hw).2⟩
def SegsOf (x P : List Nat) (ws : List Wz) : Prop := ∀ (j a b : Nat) (w : Wz), P[j]? = some a → P[j + 1]? = some b → ws[j]? = some w → txt w.2 = (x.take b).drop a
theorem parts58_w {v : MV} {rs : List (List Nat × Nat)} {P : List Nat} (m : RepAt h v rs) (pl : Plc P (txt rs).length) (hf : rs.length ≤ 40) (hz : (txt rs).length ≤ 100 * TEN60)
    (q : ∀ h', Old h h' → Q (.bl true) h') : Wm (F__law_parts_right [v, .tl (P.map iN)] h) Q E := by
  have bigq := big400
  have tl : ∀ (l : List MV) (h : Mh) (Q : MV → Mh → Prop) (E : Exn → Mh → Prop), Wm (mkl false l h) Q E = Q (.tl l) h := fun _ _ _ _ => rfl
  have lc : LcA (txt rs) := txt_lc fun z hz => (m.ok.el z hz).2.2.1
  have p8 := pl.few
  unfold F__law_parts_right
  rw [wm_fn]
  refine ⟨rfl, ?_⟩
  show Ws (B__law_parts_right [some (v), some (.tl (P.map iN)), none, none, none, none, none, none] h) _ _ _ _ _
  unfold B__law_parts_right
  have ct : ∀ (h : Mh) (Q : MV → Mh → Prop) (E : Exn → Mh → Prop), Wm (mCut false (.tl (P.map iN)) (some 1) none h) Q E = Q (.tl ((P.drop 1).map iN)) h := fun h Q E => by
    rw [List.map_drop]
    refine cut_tlD (i := 1) ?_
    have := (List.getElem?_eq_some_iff.mp pl.fst).1
    rw [List.length_map]
    omega
  have p0 : 0 < P.length := (List.getElem?_eq_some_iff.mp pl.fst).1
  refine ws_cutP (fun g h2 => ∃ ws : List Wz, ws.length + 1 = P.length ∧ WsOk h2 (3 * rs.length) ws ∧ SegsOf (txt rs) P ws ∧ Old h h2 ∧ g = [some (v), some (.tl (P.map iN)), some (.tl (ws.map (·.1))), none, none, none, none, none]) (fun P' kp => ?_) ?_
  · simp only [sSet, ws_bs, xLc, xSl, xPart, xNoP, x1, xCons, x2, xVar, xC, xNil, wm_bd, wm_ok, wm_pu, List.getElem?_cons_zero, List.getElem?_cons_succ, ct, zip_tl]
    refine comp_invG (xs := zipL (P.map iN) ((P.drop 1).map iN)) (fun i acc h2 => ∃ ws : List Wz, acc = ws.map (·.1) ∧ ws.length = i ∧ WsOk h2 (3 * rs.length) ws ∧ SegsOf (txt rs) P ws ∧ Old h h2) (fun i acc h2 _ => itZip_at rfl rfl) (by unfold zipL; rw [List.length_zipWith]; simp; omega) ⟨[], rfl, rfl, fun w hw => by simp at hw, fun j a b w _ _ hw => by simp at hw, Old.refl⟩ ?_ ?_
    · rintro i x acc h2 e ⟨ws, rfl, hi, ok, sg, od⟩
      obtain ⟨a, b, ha, hb, rfl⟩ := zip_get e
      have le := pl.le ha hb
      have m2 := m.old od.2
      refine ⟨_, rfl, ?_⟩
      simp only [cYes, wm_ok, if_true]
      rw [meth_w m2 (by decide) rfl]
      simp only [x1, xCons, x2, xVar, xC, xNil, wm_bd, wm_ok, wm_pu, List.getElem?_cons_zero, List.getElem?_cons_succ, wipM, iN, List.set_cons_zero, List.set_cons_succ]
      refine part_w m2 (by omega) le.1 le.2 fun v' us h3 r1 r2 r3 r4 r5 => ?_
      refine ⟨ws ++ [(v', us)], by rw [List.map_append]; rfl, by simp [hi], ?_, ?_, od.trans ⟨r4, r5⟩⟩
      · intro w hw
        rcases List.mem_append.mp hw with hw | hw
        · exact (ok.old ⟨r4, r5⟩) w hw
        · rw [List.mem_singleton] at hw
          subst hw
          exact ⟨r1, r3⟩
      · intro j a' b' w ha' hb' hw
        by_cases c : j < ws.length
        · rw [List.getElem?_append_left c] at hw
          exact sg j a' b' w ha' hb' hw
        · have hj : j = ws.length := by
            have := (List.getElem?_eq_some_iff.mp hw).1
            simp at this
            omega
          subst hj
          rw [List.getElem?_append_right (Nat.le_refl _), Nat.sub_self] at hw
          cases hw
          rw [hi, ha] at ha'
          rw [hi, hb] at hb'
          cases ha'
          cases hb'
          exact r2
    · rintro acc h2 ⟨ws, rfl, hi, ok, sg, od⟩
      unfold zipL at hi
      rw [List.length_zipWith, List.length_map, List.length_map, List.length_drop] at hi
      rw [tl]
      exact kp _ _ ⟨ws, by omega, ok, sg, od, rfl⟩
  rintro _ h2 ⟨ws, hw, ok, sg, od, rfl⟩
  have m2 := m.old od.2
  have fl := seg_flat pl hw sg
  have full : (ws.map fun w => txt w.2).flatten = txt rs := by
    have := fl (P.length - 1) _ pl.lst
    rw [List.take_of_length_le (by omega), List.take_length] at this
    exact this
  have po : PairsOk [] := ⟨by simp, by simp, by rw [txt_nil]; exact Nat.pow_pos (by decide)⟩
  refine ws_cutP (fun g h3 => ∃ u us, RepAt h3 u us ∧ txt us = [] ∧ us.length = 0 ∧ Old h2 h3 ∧ g = [some (v), some (.tl (P.map iN)), some (.tl (ws.map (·.1))), some (u), none, none, none, none]) (fun P' kp => ?_) ?_
  · simp only [sSet, ws_bs, x1, xCons, x2, xVar, xC, xNil, wm_bd, wm_ok, wm_pu, List.getElem?_cons_zero, List.getElem?_cons_succ, lst1, List.length_nil, Nat.zero_le]
    refine made_list (ps := []) (.inl rfl) po (by simp) (by simp) fun u us h3 a1 a2 a3 a4 a5 _ => ?_
    exact kp _ _ ⟨u, us, a1, a2, by simpa using a3, ⟨a4, a5⟩, rfl⟩
  rintro _ h3 ⟨u, us, mu, eu, lu, od3, rfl⟩
  have itl : ∀ (xs : List MV) (h : Mh) (Q : MIt → Mh → Prop) (E : Exn → Mh → Prop), Wm (iAny (.tl xs) h) Q E = Q (itC xs) h := fun xs h Q E => by simp [iAny, tpv]
  refine ws_cutP (fun g h4 => ∃ u us y, RepAt h4 u us ∧ txt us = txt rs ∧ Old h2 h4 ∧ g = [some (v), some (.tl (P.map iN)), some (.tl (ws.map (·.1))), some (u), y, none, none, none]) (fun P' kp => ?_) ?_
  · rw [ws_for]
    simp only [x1, xVar, wm_bd, wm_ok, List.getElem?_cons_zero, List.getElem?_cons_succ, itl]
    refine for_invG (xs := ws.map (·.1)) (fun j g h4 => ∃ u us y, RepAt h4 u us ∧ txt us = ((ws.take j).map fun w => txt w.2).flatten ∧ us.length ≤ j * (3 * rs.length) ∧ Old h2 h4 ∧ g = [some (v), some (.tl (P.map iN)), some (.tl (ws.map (·.1))), some (u), y, none, none, none]) (fun j g h4 _ => rfl) (by simp; omega) ⟨u, us, none, mu, by rw [eu]; simp, by omega, od3, rfl⟩ ?_ ?_
    · rintro j y g h4 ej ⟨u, us, y0, mu4, eu4, lu4, od4, rfl⟩
      rw [List.getElem?_map] at ej
      obtain ⟨w, ew, rfl⟩ := Option.map_eq_some_iff.mp ej
      have jl : j < ws.length := (List.getElem?_eq_some_iff.mp ew).1
      obtain ⟨mw, lw⟩ := (ok.old od4) w (List.mem_of_getElem? ew)
      simp only [gNm, wm_ok, List.set_cons_zero, List.set_cons_succ, sSet, ws_bs, x1, xCons, x2, xVar, xC, xNil, wm_bd, wm_ok, wm_pu, List.getElem?_cons_zero, List.getElem?_cons_succ]
      have j8 : j * (3 * rs.length) ≤ 7 * (3 * rs.length) := Nat.mul_le_mul_right _ (by omega)
      have ejl : P[j]? = some (P[j]'(by omega)) := List.getElem?_eq_getElem (by omega)
      have ejm : P[j + 1]? = some (P[j + 1]'(by omega)) := List.getElem?_eq_getElem (by omega)
      have tw := sg j _ _ w ejl ejm ew
      have tu := fl j _ ejl
      refine add_w mu4 mw (by omega) (Nat.lt_of_le_of_lt (by rw [eu4, tu, tw]; simp only [List.length_take, List.length_drop]; omega) bigq) fun v' us' h5 a1 a2 a3 a4 a5 => ?_
      try simp only [wm_bd, wm_ok, wm_pu, ws_nx]
      refine ⟨v', us', some w.1, a1, ?_, by rw [Nat.add_mul]; omega, od4.trans ⟨a4, a5⟩, rfl⟩
      rw [a2, eu4, List.take_add_one, ew, List.map_append, List.flatten_append]
      show _ = _ ++ ([txt w.2].flatten)
      rw [List.flatten_cons, List.flatten_nil, List.append_nil]
    · rintro g h4 ⟨u, us, y, a, b, c, d, rfl⟩
      rw [List.length_map, List.take_length, full] at b
      exact kp _ _ ⟨u, us, y, a, b, d, rfl⟩
  rintro _ h4 ⟨u, us, y, mu4, eu4, od4, rfl⟩
  have m4 := m2.old od4.2
  have ok4 := ok.old od4
  have w7 : ws.length ≤ 7 := by omega
  clear itl
  have itl : ∀ (h : Mh) (Q : MIt → Mh → Prop) (E : Exn → Mh → Prop), Wm (iAny (.tl (ws.map (·.1))) h) Q E = Q (itC (ws.map (·.1))) h := fun h Q E => by simp [iAny, tpv]
  refine ws_skip ?_ ?_
  · simp only [tOrM, tsb, x1, x2, xCons, xNil, xVar, wm_bd, wm_ok, wm_pu, List.getElem?_cons_zero, List.getElem?_cons_succ, neR_w mu4 m4, eu4, decide_true, Bool.xor_self, Bool.xor_true, Bool.not_true, Bool.false_eq_true, if_false, xLc, itl]
    refine comp_ws (ws := ws) (by omega) (fun w => (txt w.2).length) (fun w hw => ⟨_, rfl, ?_⟩) ?_
    · simp only [x1, xVar, wm_bd, wm_ok, wipM, List.set_cons_zero, List.set_cons_succ, List.getElem?_cons_zero, List.getElem?_cons_succ, length_w (ok4 w hw).1, and_self]
    · rw [tl]
      simp only [wm_bd, wm_ok, wm_pu, sum_w, sum_len ws full, length_w m4, neI, ne_eq, not_true, decide_false, and_self]
  refine ws_cutP (fun g h' => h' = h4 ∧ ∃ z, g = [some (v), some (.tl (P.map iN)), some (.tl (ws.map (·.1))), some (u), y, z, none, none]) (fun P' kp => ?_) ?_
  · rw [ws_for]
    simp only [x1, xC, wm_bd, wm_ok]
    show Ws (forN FUEL (itC (([97, 98, 99, 100] : List Nat).map chM)) _ _ 0 _ _) _ _ _ _ _
    refine for_inv (fun i g h' => h' = h4 ∧ ∃ z, g = [some (v), some (.tl (P.map iN)), some (.tl (ws.map (·.1))), some (u), y, z, none, none]) (by simp) ⟨rfl, none, rfl⟩ ?_ (fun g h' z => kp g h' z)
    rintro i yy g h' ei ⟨rfl, z, rfl⟩
    rw [List.getElem?_map] at ei
    obtain ⟨c, ec, rfl⟩ := Option.map_eq_some_iff.mp ei
    simp only [gNm, wm_ok, List.set_cons_zero, List.set_cons_succ]
    refine ws_ifF ?_ ⟨rfl, some (chM c), rfl⟩
    simp only [tsb, x1, x2, xCons, xNil, xVar, wm_bd, wm_ok, wm_pu, List.getElem?_cons_zero, List.getElem?_cons_succ, xLc, itl]
    refine comp_ws (ws := ws) (by omega) (fun w => (txt w.2).count c) (fun w hw => ⟨_, rfl, ?_⟩) ?_
    · rw [meth_w (ok4 w hw).1 (by decide) rfl]
      simp only [xCons, x2, xVar, xNil, wm_bd, wm_pu, wm_ok, wipM, List.set_cons_zero, List.set_cons_succ, List.getElem?_cons_zero, List.getElem?_cons_succ]
      show Wm (F_Repeats_count [w.1, .str ⟨#[c]⟩] h') _ _
      rw [count_e (ok4 w hw).1 c, wm_ok]
      exact ⟨rfl, rfl⟩
    · rw [tl]
      simp only [wm_bd, wm_ok, wm_pu, sum_w, sum_cnt ws c full]
      rw [meth_w m4 (by decide) rfl]
      simp only [xCons, x2, xVar, xNil, wm_bd, wm_pu, wm_ok, List.getElem?_cons_zero, List.getElem?_cons_succ]
      have e2 : F_Repeats_count [v, chM c] h' = some (.ok (.int ((txt rs).count c : Nat)) h') := count_e m4 c
      rw [e2]
      simp only [wm_bd, wm_ok, wm_pu, neI, ne_eq, not_true, decide_false, and_self]
  rintro _ h5 ⟨eh, z, rfl⟩
  rw [eh]
  simp only [sRet, ws_bs, xLc, xSl, xPart, xNoP, x1, xCons, x2, xVar, xC, xNil, wm_bd, wm_ok, wm_pu, List.getElem?_cons_zero, List.getElem?_cons_succ, itl]
  refine comp_ws (ws := ws) (by omega) (fun w => (txt w.2).length) (fun w hw => ⟨_, rfl, ?_⟩) ?_
  · simp only [x1, xVar, wm_bd, wm_ok, wipM, List.set_cons_zero, List.set_cons_succ, List.getElem?_cons_zero, List.getElem?_cons_succ, length_w (ok4 w hw).1, and_self]
  rw [tl]
  simp only [wm_bd, wm_ok, wm_pu, ct, zip_tl]
  have zl : (zipL (P.map iN) ((P.drop 1).map iN)).length = ws.length := by
    unfold zipL
    rw [List.length_zipWith, List.length_map, List.length_map, List.length_drop]
    omega
  refine comp_invG (xs := zipL (P.map iN) ((P.drop 1).map iN)) (fun i acc h2 => h2 = h4 ∧ acc = ((ws.take i).map fun w => (((txt w.2).length : Nat) : Int)).map .int) (fun i acc h2 _ => itZip_at rfl rfl) (by omega) ⟨rfl, by simp⟩ ?_ ?_
  · rintro i x acc h2 e ⟨rfl, rfl⟩
    have iw : i < ws.length := by rw [← zl]; exact (List.getElem?_eq_some_iff.mp e).1
    obtain ⟨a, b, ha, hb, rfl⟩ := zip_get e
    have le := pl.le ha hb
    have ew := List.getElem?_eq_getElem iw
    have tw := congrArg List.length (sg i a b _ ha hb ew)
    rw [List.length_drop, List.length_take] at tw
    refine ⟨_, rfl, ?_⟩
    simp only [cYes, wm_ok, if_true, x2, xVar, wm_bd, wipM, iN, List.set_cons_zero, List.set_cons_succ, List.getElem?_cons_zero, List.getElem?_cons_succ, subI]
    refine ⟨rfl, ?_⟩
    rw [List.take_add_one, ew, List.map_append, List.map_append]
    show _ = _ ++ [MV.int (((txt ws[i].2).length : Nat) : Int)]
    rw [show ((b : Int) - a) = (((txt ws[i].2).length : Nat) : Int) by omega]
  · rintro acc h2 ⟨rfl, rfl⟩
    rw [tl, zl, List.take_length]
    simp only [wm_bd, wm_ok, wm_pu, eq_ints, ws_rt]
    exact q _ (od.trans od4)
end
theorem cells1_w {ns : List Int} {m : Nat} {g : Sg} {h : Mh} {Q : MIt → Mh → Prop} {E : Exn → Mh → Prop} (hm : m ≤ 62) (hl : ns.length ≤ 63) (hg : g[0]? = some (some (.rol (ns.map .int)))) (q : ∀ n : Nat, n ≤ 63 → Q (itC (rngM 0 n)) h) :
    Wm ((x1 iRange1 (xCons (x2 (mAdd false) (xC (.int 1)) (x1 mMin (xCons (xC (.int m)) (xCons (x1 mLen (xCons (xVar 0) xNil)) xNil)))) xNil)) g h) Q E := by
  have ln : ∀ (Q : MV → Mh → Prop) (E : Exn → Mh → Prop), Wm (mLen [.rol (ns.map .int)] h) Q E = Q (.int ns.length) h := fun Q E => by
    show Q (.int ((ns.map MV.int).length : Nat)) h = _
    rw [List.length_map]
  simp only [x1, xCons, x2, xC, xNil, xVar, hg, wm_bd, wm_ok, wm_pu, ln, minI, addI]
  obtain ⟨n, e1, hn⟩ : ∃ n : Nat, (1 + (if (ns.length : Int) < m then (ns.length : Int) else m)) = (n : Int) ∧ n ≤ 63 := by
    by_cases c : (ns.length : Int) < m
    · rw [if_pos c]
      exact ⟨ns.length + 1, by omega, by omega⟩
    · rw [if_neg c]
      exact ⟨m + 1, by omega, by omega⟩
  rw [e1]
  have hn2 : -(2 ^ 62) ≤ (n : Int) ∧ (n : Int) < 2 ^ 62 := by omega
  simp only [iRange1, if_pos hn2, wm_ok, Int.toNat_natCast]
  exact q n hn

theorem law_true (ns : List Int) (hl : ns.length ≤ 63) : ∃ h', F_law [.rol (ns.map .int)] [] = some (.ok (.bl true) h') := by
  have bigq := big400
  have tz : ∀ ps : List (List Nat × Nat), (∀ q ∈ ps, q.1.length ≤ 4 ∧ q.2 ≤ TEN60) → (txt ps).length ≤ ps.length * (4 * TEN60) := fun ps => by
    induction ps with
    | nil => intro _; simp [txt_nil]
    | cons q ps ih =>
      intro hp
      obtain ⟨a, c⟩ := hp q (List.mem_cons_self ..)
      have := ih fun r hr => hp r (List.mem_cons_of_mem _ hr)
      have : q.2 * q.1.length ≤ TEN60 * 4 := Nat.mul_le_mul c a
      rw [txt_cons, List.length_append, rep_len, List.length_cons, Nat.add_mul]
      omega
  have w : Wm (F_law [.rol (ns.map .int)] []) (fun v _ => v = .bl true) NE := by
    unfold F_law
    rw [wm_fn]
    refine ⟨rfl, ?_⟩
    unfold B_law
    refine ws_cutP (fun g _ => True) (fun P kp => ?_) (fun g h _ => by simp only [sRet, xC, ws_bs, wm_ok, ws_rt])
    rw [ws_for]
    refine cells1_w (m := 3) (by omega) hl rfl fun n hn => ?_
    refine for_inv (fun i g h => ∃ u1 u2 u3 u4 u5 u6 u7 u8, g = [some (.rol (ns.map .int)), u1, u2, u3, u4, u5, u6, u7, u8]) (by rw [show (rngM 0 n).length = n by simp [rngM]]; omega) ⟨_, _, _, _, _, _, _, _, rfl⟩ ?_ (fun g h q => kp g h trivial)
    rintro i v g h ei ⟨u1, u2, u3, u4, u5, u6, u7, u8, rfl⟩
    obtain ⟨rfl, hi⟩ := rng_at ei
    clear kp
    simp only [gNm, wm_ok, List.set_cons_zero, List.set_cons_succ]
    refine ws_cutP (fun g h2 => ∃ b, g = [some (.rol (ns.map .int)), some (.int (i : Nat)), some (.ref b), u3, u4, u5, u6, u7, u8] ∧ Bg h2 b) (fun P kp => ?_) ?_
    · simp only [sSet, x1, xCons, x2, xVar, xNil, ws_bs, wm_bd, wm_ok, wm_pu, List.getElem?_cons_zero, List.getElem?_cons_succ]
      refine bag_w hl (by omega) fun g r g0 r0 r1 => ?_
      exact kp _ _ ⟨h.length, rfl, g, r, 0, push_at, g0, r0, r1⟩
    rintro _ h2 ⟨b, rfl, hb⟩
    refine ws_cutP (fun g h3 => ∃ v rs, RepAt h3 v rs ∧ rs.length ≤ 8 ∧ (txt rs).length ≤ 32 * TEN60 ∧ Bg h3 b ∧ g = [some (.rol (ns.map .int)), some (.int (i : Nat)), some (.ref b), some (v), u4, u5, u6, u7, u8]) (fun P kp => ?_) ?_
    · simp only [sSet, ws_bs, x1, xCons, x2, xVar, xC, xNil, wm_bd, wm_ok, wm_pu, List.getElem?_cons_zero, List.getElem?_cons_succ, pow20, pow60, lst1, List.length_cons, List.length_nil, Nat.reduceAdd, Nat.reduceLeDiff]
      refine take_w hb (by omega) (by omega) fun j h' i0 i1 k => ?_
      obtain ⟨t, ht, et⟩ : ∃ t : Nat, t ≤ TEN60 ∧ ∀ (Q : MV → Mh → Prop) (E : Exn → Mh → Prop), Wm (mSub2 (.tl [.int 4, .int ((10 ^ 20 : Nat) : Int), .int (TEN60 : Nat)]) (.int j) h') Q E = Q (.int (t : Nat)) h' := by
        have : j = 0 ∨ j = 1 ∨ j = 2 := by omega
        rcases this with rfl | rfl | rfl
        · exact ⟨4, by decide +kernel, fun Q E => by rfl⟩
        · exact ⟨10 ^ 20, by decide +kernel, fun Q E => by rfl⟩
        · exact ⟨TEN60, Nat.le_refl _, fun Q E => by rfl⟩
      simp only [wm_bd, wm_ok, wm_pu, et]
      refine pairs_w k.bag (by omega) (by omega) (by omega) (by unfold TEN60 at ht; omega) fun ps h2 p1 p2 k2 => ?_
      have q1 : ∀ q ∈ ps, q.1.length ≤ 4 ∧ q.2 ≤ TEN60 := fun q hq => ⟨(p1 q hq).2.1, by have := (p1 q hq).2.2; omega⟩
      have l4 : ps.length ≤ 8 := by omega
      have lt : (txt ps).length ≤ 32 * TEN60 := by
        have h1 := tz ps q1
        have h2 : ps.length * (4 * TEN60) ≤ 8 * (4 * TEN60) := Nat.mul_le_mul_right _ l4
        omega
      have po : PairsOk ps := ⟨fun q hq => ⟨(p1 q hq).1, by have := (p1 q hq).2.1; omega⟩, by omega, Nat.lt_of_le_of_lt (by omega) bigq⟩
      try simp only [wm_bd, wm_ok, wm_pu]
      refine made_list (.inl rfl) po (by omega) (fun q hq => ⟨by have := (q1 q hq).1; omega, (q1 q hq).2⟩) fun v' us h3 r a1 a2 a3 a4 _ => ?_
      exact kp _ _ ⟨v', us, r, by omega, by rw [a1]; exact lt, bg_old k2.bag a4, rfl⟩
    rintro _ h3 ⟨v, rs, m3, r8, z3, hb3, rfl⟩
    refine ws_cutP (fun g h4 => ∃ P, Plc P (txt rs).length ∧ RepAt h4 v rs ∧ Bg h4 b ∧ g = [some (.rol (ns.map .int)), some (.int (i : Nat)), some (.ref b), some (v), some (.tl (P.map iN)), u5, u6, u7, u8]) (fun P kp => ?_) ?_
    · simp only [sSet, ws_bs, x1, xCons, x2, xVar, xC, xNil, wm_bd, wm_ok, wm_pu, List.getElem?_cons_zero, List.getElem?_cons_succ]
      refine cuts_w hb3 m3 (by omega) fun P' h' pl k => ?_
      exact kp _ _ ⟨P', pl, m3.kp hb3 k, k.bag, rfl⟩
    rintro _ h4 ⟨P, pl, m4, hb4, rfl⟩
    refine ws_cutP (fun g h5 => RepAt h5 v rs ∧ Bg h5 b ∧ g = [some (.rol (ns.map .int)), some (.int (i : Nat)), some (.ref b), some (v), some (.tl (P.map iN)), u5, u6, u7, u8]) (fun P' kp => ?_) ?_
    · rw [ws_if]
      simp only [tNoM, tst, x1, xCons, x2, xVar, xC, xNil, wm_bd, wm_ok, wm_pu, List.getElem?_cons_zero, List.getElem?_cons_succ]
      refine parts58_w m4 pl (by omega) (by omega) fun h' od => ?_
      simp only [truM, Option.map_some, Bool.not_true, Bool.false_eq_true, if_false, wm_bd, wm_ok, wm_pu, wm_itf]
      exact kp _ _ ⟨m4.old od.2, bg_old hb4 od.2, rfl⟩
    rintro _ h5 ⟨m5, hb5, rfl⟩
    have p0 : 0 < P.length := (List.getElem?_eq_some_iff.mp pl.fst).1
    have p8 := pl.few
    have ct : ∀ (h : Mh) (Q : MV → Mh → Prop) (E : Exn → Mh → Prop), Wm (mCut false (.tl (P.map iN)) (some 1) none h) Q E = Q (.tl ((P.drop 1).map iN)) h := fun h Q E => by
      rw [List.map_drop]
      refine cut_tlD (i := 1) ?_
      rw [List.length_map]
      omega
    rw [ws_for]
    simp only [xSl, xPart, xNoP, x1, xCons, x2, xVar, xC, xNil, wm_bd, wm_ok, wm_pu, List.getElem?_cons_zero, List.getElem?_cons_succ, ct, zip_tl]
    refine for_invG (xs := zipL (P.map iN) ((P.drop 1).map iN)) (fun j g h => RepAt h v rs ∧ Bg h b ∧ ∃ u5 u6 u7 u8, g = [some (.rol (ns.map .int)), some (.int (i : Nat)), some (.ref b), some (v), some (.tl (P.map iN)), u5, u6, u7, u8]) (fun j g h _ => itZip_at rfl rfl) (by unfold zipL; rw [List.length_zipWith]; simp; omega) ⟨m5, hb5, _, _, _, _, rfl⟩ ?_ ?_
    · rintro j y g h ej ⟨m, hbh, u5, u6, u7, u8, rfl⟩
      obtain ⟨a, e, ha, he, rfl⟩ := zip_get ej
      have le := pl.le ha he
      have g1 : ∀ at0 : Option MV, gTp 2 (gCn (gNm 5) (gCn (gNm 6) gNl)) (.tup [iN a, iN e]) [some (.rol (ns.map .int)), some (.int (i : Nat)), some (.ref b), some (v), some (.tl (P.map iN)), u5, u6, u7, u8] h = some (.ok [some (.rol (ns.map .int)), some (.int (i : Nat)), some (.ref b), some (v), some (.tl (P.map iN)), some (.int (a : Nat)), some (.int (e : Nat)), u7, u8] h) := fun _ => rfl
      rw [g1 none, wm_ok]
      refine ws_cutP (fun g h6 => ∃ pv ps, RepAt h6 v rs ∧ RepAt h6 pv ps ∧ txt ps = ((txt rs).take e).drop a ∧ ps.length ≤ 24 ∧ Bg h6 b ∧ g = [some (.rol (ns.map .int)), some (.int (i : Nat)), some (.ref b), some (v), some (.tl (P.map iN)), some (.int (a : Nat)), some (.int (e : Nat)), some (pv), u8]) (fun P' kp => ?_) ?_
      · simp only [sSet, ws_bs]
        rw [meth_w m (by decide) rfl]
        simp only [x1, xCons, x2, xVar, xC, xNil, wm_bd, wm_ok, wm_pu, List.getElem?_cons_zero, List.getElem?_cons_succ]
        refine part_w m (by omega) le.1 le.2 fun v' us h6 a1 a2 a3 a4 a5 => ?_
        exact kp _ _ ⟨v', us, m.old a5, a1, a2, by omega, bg_old hbh a5, rfl⟩
      rintro _ h6 ⟨pv, ps, m6, mp, ep, p24, hb6, rfl⟩
      have lp : (txt ps).length = e - a := by rw [ep, List.length_drop, List.length_take]; omega
      have hget : ∀ i, a + i < e → ∃ c, (txt ps)[i]? = some c ∧ (txt rs)[a + i]? = some c := fun i hi => by
        have hi2 : a + i < (txt rs).length := by omega
        refine ⟨(txt rs)[a + i], ?_, List.getElem?_eq_getElem hi2⟩
        rw [ep, List.getElem?_drop, List.getElem?_take_of_lt hi, List.getElem?_eq_getElem hi2]
      refine ws_cutP (fun g h7 => ∃ y, RepAt h7 v rs ∧ RepAt h7 pv ps ∧ Bg h7 b ∧ g = [some (.rol (ns.map .int)), some (.int (i : Nat)), some (.ref b), some (v), some (.tl (P.map iN)), some (.int (a : Nat)), some (.int (e : Nat)), some (pv), y]) (fun P' kp => ?_) ?_
      · by_cases c : a < e
        · refine ws_ifT ?_ ?_
          · have c' : (a : Int) < (e : Nat) := by omega
            simp only [tsb, x1, x2, xVar, wm_bd, wm_ok, List.getElem?_cons_zero, List.getElem?_cons_succ, ltI, c', decide_true, and_self]
          refine ws_cutP (fun g h7 => ∃ t : Nat, t < e - a ∧ RepAt h7 v rs ∧ RepAt h7 pv ps ∧ Bg h7 b ∧ g = [some (.rol (ns.map .int)), some (.int (i : Nat)), some (.ref b), some (v), some (.tl (P.map iN)), some (.int (a : Nat)), some (.int (e : Nat)), some (pv), some (.int (t : Nat))]) (fun P' kp => ?_) ?_
          · simp only [sSet, ws_bs, x1, xCons, x2, xVar, xC, xNil, wm_bd, wm_ok, wm_pu, List.getElem?_cons_zero, List.getElem?_cons_succ, subI]
            refine take_w hb6 (by omega) (by unfold TEN60 at z3; omega) fun t h7 t0 t1 k => ?_
            obtain ⟨t, rfl⟩ : ∃ t' : Nat, t = t' := ⟨t.toNat, by omega⟩
            exact kp _ _ ⟨t, by omega, m6.kp hb6 k, mp.kp hb6 k, k.bag, rfl⟩
          rintro _ h7 ⟨t, ht, m7, mp7, hb7, rfl⟩
          obtain ⟨c1, h11, h12⟩ := hget t (by omega)
          obtain ⟨c2, h21, h22⟩ := hget 0 (by omega)
          obtain ⟨c3, h31, h32⟩ := hget (e - a - 1) (by omega)
          rw [show a + (e - a - 1) = e - 1 by omega] at h32
          rw [Nat.add_zero] at h22
          have q0 : ∀ (Q : MV → Mh → Prop) (E : Exn → Mh → Prop), Wm (mOwn2 "Repeats" bInt F_Repeats___getitem__ pv (.int 0) h7) Q E = Q (.str ⟨#[c2]⟩) h7 := fun Q E => getitem_w (i := 0) mp7 h21
          have e1 : ((e : Int) - (a : Int) - 1) = ((e - a - 1 : Nat) : Int) := by omega
          have e2 : ((e : Int) - 1) = ((e - 1 : Nat) : Int) := by omega
          refine ws_skip ?_ ?_
          · simp only [tOrM, tsb, x1, x2, xVar, xC, wm_bd, wm_ok, wm_pu, List.getElem?_cons_zero, List.getElem?_cons_succ, addN, subI, e1, e2, getitem_w mp7 h11, getitem_w m7 h12, q0, getitem_w m7 h22, getitem_w mp7 h31, getitem_w m7 h32, neSS, ne_eq, not_true, decide_false, Bool.false_eq_true, if_false, and_self]
          refine ws_cutP (fun g h8 => RepAt h8 v rs ∧ RepAt h8 pv ps ∧ Bg h8 b ∧ g = [some (.rol (ns.map .int)), some (.int (i : Nat)), some (.ref b), some (v), some (.tl (P.map iN)), some (.int (a : Nat)), some (.int (e : Nat)), some (pv), some (.int (t : Nat))]) (fun P' kp => ?_) ?_
          · rw [ws_if]
            simp only [tsb, x1, x2, wm_bd]
            rw [meth_w mp7 (by decide) rfl]
            simp only [x1, xCons, x2, xVar, xC, xNil, wm_bd, wm_ok, wm_pu, List.getElem?_cons_zero, List.getElem?_cons_succ, length_w mp7]
            refine part_w mp7 (by omega) (by omega) (Nat.le_refl _) fun v1 r1 h8 a1 a2 a3 a4 a5 => ?_
            rw [meth_w (m7.old a5) (by decide) rfl]
            simp only [x1, xCons, x2, xVar, xC, xNil, wm_bd, wm_ok, wm_pu, List.getElem?_cons_zero, List.getElem?_cons_succ, addN]
            refine part_w (m7.old a5) (by omega) (by omega) le.2 fun v2 r2 h9 b1 b2 b3 b4 b5 => ?_
            have eq : txt r1 = txt r2 := by
              rw [a2, b2, List.take_length, ep, List.drop_drop]
            rw [neR_w (a1.old b5) b1, eq]
            simp only [decide_true, Bool.xor_self, Bool.xor_true, Bool.not_true, wm_ok, Bool.false_eq_true, if_false, wm_bd, wm_pu, wm_itf]
            exact kp _ _ ⟨(m7.old a5).old b5, (mp7.old a5).old b5, bg_old (bg_old hb7 a5) b5, rfl⟩
          rintro _ h8 ⟨m8, mp8, hb8, rfl⟩
          rw [ws_if]
          simp only [tsb, x1, x2, wm_bd]
          rw [meth_w mp8 (by decide) rfl]
          simp only [x1, xCons, x2, xVar, xC, xNil, wm_bd, wm_ok, wm_pu, List.getElem?_cons_zero, List.getElem?_cons_succ]
          refine part_w (b := 0) mp8 (by omega) (by omega) (show t ≤ _ by omega) fun v1 r1 h9 a1 a2 a3 a4 a5 => ?_
          rw [meth_w (mp8.old a5) (by decide) rfl]
          simp only [x1, xCons, x2, xVar, xC, xNil, wm_bd, wm_ok, wm_pu, List.getElem?_cons_zero, List.getElem?_cons_succ, length_w (mp8.old a5)]
          refine part_w (mp8.old a5) (by omega) (by omega) (Nat.le_refl _) fun v2 r2 h10 b1 b2 b3 b4 b5 => ?_
          have la : (txt r1).length ≤ 32 * TEN60 := by rw [a2, List.length_drop, List.length_take]; omega
          have lb : (txt r2).length ≤ 32 * TEN60 := by rw [b2, List.length_drop, List.length_take]; omega
          refine add_w (a1.old b5) b1 (by omega) (Nat.lt_of_le_of_lt (by omega) bigq) fun v3 r3 h11 d1 d2 d3 d4 d5 => ?_
          have eq : txt r3 = txt ps := by
            rw [d2, a2, b2, List.take_length, List.drop_zero, List.take_append_drop]
          try simp only [wm_bd, wm_ok, wm_pu, xVar, List.getElem?_cons_zero, List.getElem?_cons_succ]
          rw [neR_w d1 (((mp8.old a5).old b5).old d5), eq]
          simp only [decide_true, Bool.xor_self, Bool.xor_true, Bool.not_true, wm_ok, Bool.false_eq_true, if_false, wm_bd, wm_pu, wm_itf]
          exact kp _ _ ⟨_, ((m8.old a5).old b5).old d5, ((mp8.old a5).old b5).old d5, bg_old (bg_old (bg_old hb8 a5) b5) d5, rfl⟩
        · refine ws_ifF ?_ (kp _ _ ⟨_, m6, mp, hb6, rfl⟩)
          have c' : ¬ (a : Int) < (e : Nat) := by omega
          simp only [tsb, x1, x2, xVar, wm_bd, wm_ok, List.getElem?_cons_zero, List.getElem?_cons_succ, ltI, c', decide_false, and_self]
      rintro _ h7 ⟨y, m7, mp7, hb7, rfl⟩
      refine ws_ifF ?_ ⟨m7, hb7, _, _, _, _, rfl⟩
      have ee : decide (txt ps ≠ []) = decide ((a : Int) < (e : Nat)) := by
        by_cases c : a < e
        · have c' : (a : Int) < (e : Nat) := by omega
          have : txt ps ≠ [] := fun z => by rw [z] at lp; simp at lp; omega
          simp [this, c']
        · have c' : ¬ (a : Int) < (e : Nat) := by omega
          have : txt ps = [] := List.eq_nil_of_length_eq_zero (by omega)
          simp [this, c']
      simp only [tsb, x1, x2, xCons, xNil, xVar, wm_bd, wm_ok, wm_pu, List.getElem?_cons_zero, List.getElem?_cons_succ, bool_w mp7, ltI, ne_bl, ee, bne_self_eq_false, and_self]
    · rintro g h ⟨m, hbh, u5, u6, u7, u8, rfl⟩
      exact ⟨_, _, _, _, _, _, _, _, rfl⟩
  obtain ⟨a, h', e, q⟩ := w.out
  exact ⟨h', by rw [e, q]⟩

end Lw
namespace Lw
open PySem PySem.Spec PyProof.Rows L2 Ob Mi StX
abbrev RR : PySem.W.OpenRow := PySem.W.OpenLaw.row PySem.Challenge.rw_ownbranch_k58_whole_parts_hold_together
abbrev hk : PySem.W.Hook := Mi.hookY 6 fa fn ts ex gn
def ob (s : PySem.W.SharedT) : Mi.AlY := Mi.obsY 6 fa fn ts ex gn (HandSHeadRun.getT s)
theorem ob_eq (s : PySem.W.SharedT) : ob s = hk.obs s.abs := Mi.obsY_eq (HandSHeadRun.getT_eq s)
def lo : List PySem.Str := (["_wall", "BranchError", "BadList", "TooLong", "NoIndex", "ITEMS", "is_integer", "is_text", "MOST_PAIRS", "LONGEST_PART", "LONGEST_TEXT", "MOST_TIMES", "is_pair", "root", "tidy", "stretch", "cut", "same_items", "Runs", "Repeats"] : List PySem.Str) ++ (["_law_bag", "_law_take", "_law_text", "_law_pairs", "_law_plain", "_law_cuts", "_law_parts_right"] : List PySem.Str)
set_option maxHeartbeats 0 in
theorem run_0 (w : World) : HandSHeadRun.RunEq RR (PySem.W.view RR.prog [31]) hk ob 20000 lo (w.withFollow "special-get-raises" false) := by
  intro os
  kernel_rfl
set_option maxHeartbeats 0 in
theorem run_1 (w : World) : HandSHeadRun.RunEq RR (PySem.W.view RR.prog [31]) hk ob 20000 lo (w.withFollow "special-get-raises" true) := by
  intro os
  kernel_rfl
theorem run_hd (w : World) : HandSHeadRun.RunEq RR (PySem.W.view RR.prog [31]) hk ob 20000 lo w :=
  PySem.W.byRow2 (P := fun w => HandSHeadRun.RunEq RR (PySem.W.view RR.prog [31]) hk ob 20000 lo w) "special-get-raises" run_0 run_1 w

end Lw
--RAW
open PySem PySem.W PySem.Calls PyProof.Rows
set_option maxHeartbeats 0 in
theorem PySem.Challenge.cw_ownbranch_k58_whole_parts_hold_together_holds : PySem.Challenge.rw_ownbranch_k58_whole_parts_hold_together.Holds := by
  w_on; o_law
  refine HandSHeadRun.head_any (r := OpenLaw.row PySem.Challenge.rw_ownbranch_k58_whole_parts_hold_together) (q := view (OpenLaw.row PySem.Challenge.rw_ownbranch_k58_whole_parts_hold_together).prog [31]) (H := Lw.hk) (ob := Lw.ob) (M := 20000) (loose := Lw.lo) (d := HandSHeadRun.topDef (OpenLaw.row PySem.Challenge.rw_ownbranch_k58_whole_parts_hold_together).prog 31) (kwd := []) Lw.ob_eq
    (by kernel_rfl) (fun s => by kernel_rfl) Lw.run_hd (by kernel_rfl) (by kernel_rfl) (by kernel_rfl) (by rfl) (by first | assumption | decide +kernel) (by decide +kernel) ⟨rfl, rfl, rfl, rfl, rfl, by decide +kernel⟩ ?hw ?hc
  case hw => w_witness2
  case hc =>
    refine Ob.walkG (l := PySem.Challenge.rw_ownbranch_k58_whole_parts_hold_together) (n := 63) (k := 8) rfl (by decide) (by kernel_rfl) ⟨rfl, by decide, by decide⟩ ?F
    intro w mg f h Y G hmg0
    obtain ⟨K, KX, c, cy⟩ := Y
    have hmg : mg ("law" : PySem.Str) = some (.ref f) := by
      have e : (HandSHeadRun.topDef (OpenLaw.row PySem.Challenge.rw_ownbranch_k58_whole_parts_hold_together).prog 31).name = ("law" : PySem.Str) := by kernel_rfl
      rw [← e]
      exact hmg0
    have T : Lw.TT w K mg := ⟨⟨⟨h, KX, G, c⟩⟩, cy⟩
    have e := hmg.symm.trans (Ob.Tp.glo T.toTp 16 (x := "law") rfl)
    cases e
    exact ⟨K, fun vs H Q _ => Mi.spM K Lw.F_law vs H Q (fun _ _ _ => False), KX, fun H a ns hl _ hS => Mi.law_start hS (Lw.law_true ns hl), fun base _ _ => Mi.FnG.cx0 (Lw.ok_law T) (fun vs H Q E h => h)⟩
