import PyProof.Rows.All
import Wide.All
import OpenK.AllK
import Wide.FinOn
import HandS.ForMost
import HandS.ForExc
import HandS.Codes
import HandS.More
import HandS.IsInst
import HandS.Wide
import HandS.Gcd
import HandS.Defaults
import HandS.OwnEq
import HandS.TupAny
import HandS.Deep
import HandS.Flow
import HandS.ExcOwn
import HandS.TryOnly
import HandS.ExcIs
import KE.KOpsOwn
import PyProof.ListMulRight
import PyProof.Rows.ListMulR
import KE.KCallOwn
import PyProof.NeKinds
import PyProof.EqAt
import PyProof.EqKinds
import HandS.FStr
import PyProof.Rows.RegStrFacts
import PySem.Challenge.RW_seatatonce_k03_share_order_and_text
set_option Elab.async false
set_option linter.all false
set_option maxRecDepth 100000
set_option maxHeartbeats 4000000
local macro_rules | `(tactic| wtm_at "ne") => `(tactic| first | assumption | exact Ne.symm (by assumption) | exact L2.ne_of_none (by assumption) (by assumption) | exact Ne.symm (L2.ne_of_none (by assumption) (by assumption)) | exact L2.ne_of_none L2.upd_same (by assumption) | exact Ne.symm (L2.ne_of_none L2.upd_same (by assumption)))
local macro_rules | `(tactic| wtm_at "hp") => `(tactic| first | assumption | exact L2.upd_same | exact (L2.upd_ne (by wtm_at "ne")).trans (by wtm_at "hp"))
local macro_rules | `(tactic| wtm_at "lk") => `(tactic| rfl)
local macro_rules | `(tactic| wtm_at "side") => `(tactic| first
  | (unfold L2.CMul; omega)
  | (unfold L2.CDiv; omega)
  | (unfold L2.CPow; decide)
  | (show (0 : Int) < _; omega))
local macro_rules | `(tactic| wtm_at "r1") => `(tactic| first
  | refine ⟨_, rfl, ?_⟩
  | refine ⟨_, _, rfl, rfl, ?_⟩
  | refine ⟨_, _, _, _, rfl, rfl, L2.SqL.of (by wtm_at "hp"), rfl, ?_⟩
  | refine ⟨_, _, _, _, rfl, rfl, L2.SqT.of (by wtm_at "hp"), rfl, ?_⟩
  | refine ⟨_, _, _, _, rfl, rfl, (by wtm_at "hp"), rfl, ?_⟩
  | refine ⟨_, _, rfl, Or.inl (L2.SqL.of (by wtm_at "hp")), ?_⟩
  | refine ⟨_, _, rfl, Or.inr (L2.SqT.of (by wtm_at "hp")), ?_⟩
  | refine Or.inl ⟨_, rfl, ?_⟩
  | refine ⟨_, _, _, _, _, rfl, (by wtm_at "hp"), (by assumption), (by assumption), (by wtm_at "lk"), ?_⟩
  | refine And.intro (by wtm_at "side") ?_
  | refine ⟨rfl, ?_⟩
  | refine L2.iteF ?_
  | refine L2.iteT ?_
  )
local macro_rules | `(tactic| wtm_at "rd") => `(tactic| repeat wtm_at "r1")
namespace My
open PySem L2
/-- a test's second half that ends as if it were not there -/
theorem and_join {c : Bool} {A B : Prop} (hB : B) (hA : c = true → B → A) : if c = true then A else B := by
  cases c with
  | true => rw [if_pos rfl]; exact hA rfl hB
  | false => rw [if_neg Bool.false_ne_true]; exact hB
/-! ### heaps -/
/-- all but p is as it was -/
def But (p : Addr) (H H' : Hp) : Prop := ∀ b o, H b = some o → b ≠ p → H' b = some o
theorem But.refl (p : Addr) (H : Hp) : But p H H := fun _ _ e _ => e
theorem But.trans {p : Addr} {H H1 H2 : Hp} (a : But p H H1) (b : But p H1 H2) : But p H H2 := fun x o e n => b x o (a x o e n) n
theorem But.upd {p : Addr} {H H1 : Hp} {o : HO} (a : But p H H1) : But p H (upd H1 p o) := fun x u e n => by rw [upd_ne n]; exact a x u e n
theorem But.new {p q : Addr} {H H1 : Hp} {o : HO} (a : But p H H1) (h : H q = none) : But p H (L2.upd H1 q o) := fun x u e n => by rw [upd_ne (ne_of_none e h)]; exact a x u e n
theorem Same.but {p : Addr} {H H1 : Hp} (a : Same H H1) : But p H H1 := fun x o e _ => a x o e
theorem same_new {q : Addr} {H : Hp} {o : HO} (h : H q = none) : Same H (L2.upd H q o) := fun x u e => by rw [upd_ne (ne_of_none e h)]; exact e
theorem Same.new {q : Addr} {H H1 : Hp} {o : HO} (a : Same H H1) (h : H q = none) : Same H (L2.upd H1 q o) := fun x u e => by rw [upd_ne (ne_of_none e h)]; exact a x u e
theorem Same.but_new {p : Addr} {H H1 H2 : Hp} (a : Same H H1) (b : But p H1 H2) (hp : H p = none) : Same H H2 := fun x o e => b x o (a x o e) (ne_of_none e hp)
theorem atI_in {α : Type} {xs : List α} {d : Int} (h0 : 0 ≤ d) (h1 : d < xs.length) : ∃ v, v ∈ xs ∧ xs[d.toNat]? = some v ∧ atI xs d = some v := by
  obtain ⟨j, rfl⟩ : ∃ j : Nat, d = j := ⟨d.toNat, by omega⟩
  have hj : j < xs.length := by omega
  have e : xs[j]? = some xs[j] := List.getElem?_eq_getElem hj
  exact ⟨xs[j], List.getElem_mem hj, e, atI_nat e⟩
/-! ### the pool -/
/-- a pool stands at p: its script's copy at l -/
def Pool (H : Hp) (p l : Addr) (ns : List Int) : Prop := ∃ a b c d : Int, H p = some (.lst [.ref l, .int a, .int b, .int c, .int d]) ∧ H l = some (.lst (ns.map V.int)) ∧ 0 ≤ a
theorem Pool.ne {H : Hp} {p l : Addr} {ns : List Int} (h : Pool H p l ns) : l ≠ p := by
  obtain ⟨a, b, c, d, hp, hl, _⟩ := h
  intro e; subst e; rw [hp] at hl
  have := HO.lst.inj (Option.some.inj hl)
  cases ns with
  | nil => cases this
  | cons x xs => cases this
theorem Pool.same {H H' : Hp} {p l : Addr} {ns : List Int} (h : Pool H p l ns) (s : Same H H') : Pool H' p l ns := by
  obtain ⟨a, b, c, d, hp, hl, ha⟩ := h
  exact ⟨a, b, c, d, s _ _ hp, s _ _ hl, ha⟩
theorem Pool.some {H : Hp} {p l : Addr} {ns : List Int} (h : Pool H p l ns) : ∃ o, H p = some o := by
  obtain ⟨a, b, c, d, hp, hl, ha⟩ := h
  exact ⟨_, hp⟩
theorem Pool.neq {H : Hp} {p l q : Addr} {ns : List Int} (h : Pool H p l ns) (hq : H q = none) : q ≠ p := by
  obtain ⟨o, e⟩ := h.some
  exact (ne_of_none e hq).symm
theorem Pool.neql {H : Hp} {p l q : Addr} {ns : List Int} (h : Pool H p l ns) (hq : H q = none) : q ≠ l := by
  obtain ⟨a, b, c, d, hp, hl, ha⟩ := h
  exact (ne_of_none hl hq).symm
theorem Pool.upd {H : Hp} {p l q : Addr} {ns : List Int} {o : HO} (h : Pool H p l ns) (n1 : q ≠ p) (n2 : q ≠ l) : Pool (L2.upd H q o) p l ns := by
  obtain ⟨a, b, c, d, hp, hl, ha⟩ := h
  exact ⟨a, b, c, d, by rw [upd_ne n1.symm]; exact hp, by rw [upd_ne n2.symm]; exact hl, ha⟩
/-- _law_pool -/
@[irreducible] def spPool (K : PySem.W.Frag) : Sp := fun vs H Q _ => ∃ (a : Addr) (ns : List Int), vs = [.ref a] ∧ SqL K H a (ns.map V.int) ∧
  ∀ (p l : Addr) (H' : Hp), H p = none → H l = none → Pool H' p l ns → Same H H' → Q (.ref p) H'
theorem pool_ok {K : PySem.W.Frag} {a : Addr} {ns : List Int} {H : Hp} {Q : VK} {E : XK} (h : SqL K H a (ns.map V.int)) (k : ∀ (p l : Addr) (H' : Hp), H p = none → H l = none → Pool H' p l ns → Same H H' → Q (.ref p) H') : spPool K [.ref a] H Q E := by
  unfold spPool
  exact ⟨a, ns, rfl, h, k⟩
/-- _law_draw -/
@[irreducible] def spDraw : Sp := fun vs H Q _ => ∃ (p l : Addr) (ns : List Int) (m : Int), vs = [.ref p, .int m] ∧ Pool H p l ns ∧ 0 < m ∧ m < 1073741824 ∧
  ∀ (d : Int) (H' : Hp), 0 ≤ d → d < m → Pool H' p l ns → But p H H' → Q (.int d) H'
theorem draw_ok {p l : Addr} {ns : List Int} {m : Int} {H : Hp} {Q : VK} {E : XK} (hP : Pool H p l ns) (h0 : 0 < m) (h1 : m < 1073741824)
    (k : ∀ (d : Int) (H' : Hp), 0 ≤ d → d < m → Pool H' p l ns → But p H H' → Q (.int d) H') : spDraw [.ref p, .int m] H Q E := by unfold spDraw; exact ⟨p, l, ns, m, rfl, hP, h0, h1, k⟩
/-- _law_number -/
@[irreducible] def spNum : Sp := fun vs H Q _ => ∃ (p l : Addr) (ns : List Int) (m : Nat), vs = [.ref p, .int (m : Int)] ∧ Pool H p l ns ∧ 0 < m ∧ m < 5 ∧
  ∀ (z : Int) (H' : Hp), z.natAbs < 10000000 ^ m → Pool H' p l ns → But p H H' → Q (.int z) H'
theorem num_ok {p l : Addr} {ns : List Int} {H : Hp} {Q : VK} {E : XK} (m : Nat) (hP : Pool H p l ns) (h0 : 0 < m) (h1 : m < 5)
    (k : ∀ (z : Int) (H' : Hp), z.natAbs < 10000000 ^ m → Pool H' p l ns → But p H H' → Q (.int z) H') : spNum [.ref p, .int (m : Int)] H Q E := by unfold spNum; exact ⟨p, l, ns, m, rfl, hP, h0, h1, k⟩
end My
namespace My
open PySem L2
/-- the law's own promise: True, whatever the script -/
@[irreducible] def spLaw (K : PySem.W.Frag) : Sp := fun vs H Q _ => ∃ (a : Addr) (ns : List Int), vs = [.ref a] ∧ SqL K H a (ns.map V.int) ∧ ns.length ≤ 63 ∧ ∀ H', Q (.bl true) H'
end My
namespace My
open PySem L2
/-! ### kinds of values: what isinstance(x, int), isinstance(x, bool) tell -/
def isI : V → Bool
  | .int _ => true
  | _ => false
def isB : V → Bool
  | .bl _ => true
  | _ => false
/-- the value's type is known, and what it has to do with int and bool -/
def Kd (K : PySem.W.Frag) (H : Hp) (x : V) : Prop := ∃ t, TyX K H x t ∧ PySem.W.kitOne K t (.type "int") = some (isI x || isB x) ∧ PySem.W.kitOne K t (.type "bool") = some (isB x)
section
variable {K : PySem.W.Frag} {H H' : Hp}
theorem Kd.int (i : Int) : Kd K H (.int i) := ⟨_, .base (.int i), kit_ty (r := true) (by decide +kernel), kit_ty (r := false) (by decide +kernel)⟩
theorem Kd.bl (b : Bool) : Kd K H (.bl b) := ⟨_, .base (.bl b), kit_ty (r := true) (by decide +kernel), kit_ty (r := true) (by decide +kernel)⟩
theorem Kd.non : Kd K H .non := ⟨_, .base .non, kit_ty (r := false) (by decide +kernel), kit_ty (r := false) (by decide +kernel)⟩
theorem Kd.str (x : Str) : Kd K H (.str x) := ⟨_, .base (.str x), kit_ty (r := false) (by decide +kernel), kit_ty (r := false) (by decide +kernel)⟩
theorem Kd.tup {a : Addr} {xs : List V} (h : H a = some (.tup xs)) : Kd K H (.ref a) := ⟨_, .base (.tup h), kit_ty (r := false) (by decide +kernel), kit_ty (r := false) (by decide +kernel)⟩
theorem Kd.lst {a : Addr} {xs : List V} (h : H a = some (.lst xs)) : Kd K H (.ref a) := ⟨_, .base (.lst h), kit_ty (r := false) (by decide +kernel), kit_ty (r := false) (by decide +kernel)⟩
theorem Kd.dct {a : Addr} {xs : List (Key × V)} (h : H a = some (.dK xs)) : Kd K H (.ref a) := ⟨_, .base (.dK h), kit_ty (r := false) (by decide +kernel), kit_ty (r := false) (by decide +kernel)⟩
/-- is_whole and _law_is_integer -/
@[irreducible] def spWhole (K : PySem.W.Frag) : Sp := fun vs H Q _ => ∃ x, vs = [x] ∧ Kd K H x ∧ Q (.bl (isI x)) H
end
theorem whole_ok {K : PySem.W.Frag} {x : V} {H : Hp} {Q : VK} {E : XK} (h : Kd K H x) (k : Q (.bl (isI x)) H) : spWhole K [x] H Q E := by
  unfold spWhole
  exact ⟨x, rfl, h, k⟩
/-- an own class, as isinstance asks it -/
structure OwnT (K : PySem.W.Frag) (C : Addr) : Prop where
  cl : Cls K C
  ha : PySem.W.findIn K (.ref C) "__class__" = some (some (.builtin "object.__class__"))
  hn : PySem.W.specialIn K (.builtin "object.__class__") "__get__" = some (some (.builtin "getset_descriptor.__get__"))
  htk : PySem.W.takesIn K (.builtin "object.__class__") = some true
  hm : PySem.W.mroIn K C (.type "object") = some true
theorem OwnT.ty {K : PySem.W.Frag} {C : Addr} (T : OwnT K C) {H : Hp} {a dx : Addr} {fs : List (Str × V)} (h : H a = some (.ins C dx fs)) : TyX K H (.ref a) (.ref C) := .base (.ins h T.cl T.ha T.hn T.htk T.hm)
theorem kit_self {K : PySem.W.Frag} {C : Addr} : PySem.W.kitOne K (.ref C) (.ref C) = some true := by
  unfold PySem.W.kitOne
  rw [if_pos (by simp)]
/-! ### a class made within a try: what it raises is wished for at the caller's slots -/
section
variable {X : Cx} {C f : Addr} {CX : CXT} {k : Nat} {fd : FuncData} {ps : List Str} {sp : Sp} {dvs : List V} {ds : List Value} {E : St → XK}
def tMakeS (C : Addr) (sp : Sp) (dvs : List V) (E : St → XK) (t : TA) : TE := fun σ H Q => t σ H fun vs H1 =>
  ∀ x dx, H1 x = none → H1 dx = none → dx ≠ x → sp (.ref x :: (vs ++ dvs)) (upd (upd H1 dx (.own x)) x (.ins C dx [])) (fun v H2 => v = .non ∧ Q (.ref x) H2) (E σ)
theorem run_makeS {pins : List (Addr × Obj)} {σ : St} {H : Hp} {s : Shared} {Q : VK} {us : List Value} {vs : List V} (M : Mk X.K C f)
    (F : FnOk X.prog X.w X.K X.mg X.base CX k f fd ps sp) (hr : Room (k + 1) X.A) (hb : Binds X.K fd ps ds) (hd : Vals dvs ds)
    (hx : PassesAt CX X σ (E σ)) (I : Inv X pins σ H s) (r : Vals vs us)
    (h : ∀ x dx, H x = none → H dx = none → dx ≠ x → sp (.ref x :: (vs ++ dvs)) (upd (upd H dx (.own x)) x (.ins C dx [])) (fun v H2 => v = .non ∧ Q (.ref x) H2) (E σ)) :
    wpAny (model X.prog X.w) X.A (call (.ref C) us) (EP X pins σ Q) X.xe s := by
  generalize hz : s.heap.objs.size = z
  have hq := h (z + 1) z (I.hok.fresh (by rw [hz]; exact Nat.le_succ z)) (I.hok.fresh (by rw [hz]; exact Nat.le_refl z)) (Nat.ne_of_lt (Nat.lt_succ_self z))
  have J := Inv.made (C := C) I
  rw [hz] at J
  have r2 : Vals (V.ref (z + 1) :: (vs ++ dvs)) (Value.ref (z + 1) :: (us ++ ds)) := .cons rfl (r.append hd)
  have hl : (Value.ref (z + 1) :: us ++ ds).length = ps.length := (r2.length.symm.trans (F.len _ _ _ _ hq) : _)
  refine wpAny_call (make_map (f := f) I.kIn M.makes M.init (beq_iff_eq.mp M.fn) ?_)
  rw [hz]
  refine codeAny_mono (F.run _ X.stack _ _ ⟨Value.ref (z + 1) :: us, []⟩ (Value.ref (z + 1) :: (us ++ ds)) _ _ (E σ) (hr.make C us []) (J.env0.make C us []) (hb _ (Value.ref (z + 1) :: us) J.kIn hl) r2 hq) fun y s' hy => ?_
  match y, hy with
  | .error e, hy => exact hx pins _ _ e s' J hy
  | .ok (.ret u), hy =>
    obtain ⟨v, H', J3, rv, ev, q3⟩ := J.after hy
    subst ev
    exact ⟨rv, ⟨V.ref (z + 1), H', J3, rfl, q3⟩⟩
  | .ok .next, hy => exact hy.elim
  | .ok .brk, hy => exact hy.elim
  | .ok .cont, hy => exact hy.elim
theorem pe_makeS {x : Str} {p pos : Pos} {e : Expr} {es : List Expr} {t : TA} (M : Mk X.K C f) (F : FnOk X.prog X.w X.K X.mg X.base CX k f fd ps sp)
    (hr : Room (k + 1) X.A) (hg : Gl X x) (hm : X.mg x = some (.ref C)) (hb : Binds X.K fd ps ds) (hd : Vals dvs ds) (hx : ∀ σ, PassesAt CX X σ (E σ))
    (ha : PA X (e :: es) t) (hdb : (x == ("__debug__" : Str)) = false := by decide)
    (he : starEach (e :: es) X.env = (false, eval e X.env) :: starEach es X.env := by rfl) (hpl : (backTo pos (starEach es X.env)).any (·.1) = false := by rfl) :
    PE X (.Call (.Name x p) (e :: es) [] pos) (tMakeS C sp dvs E t) := by
  constructor
  intro pins s σ H Q I h
  refine wpAny_Call_Name_kw (ld_glob I hg hm ?_ hdb)
  refine PySem.W.callWith_K (h₀ := X.base) I.ok.mod.kin M.kp (thn (ha.run pos pins s σ H _ I h) ?_) he hpl
  rintro us s1 ⟨vs, H1, I1, r, q⟩
  exact ⟨I1.kIn, run_makeS M F hr hb hd (hx σ) I1 r q⟩
end
/-! ### isinstance of a caught error, its class told by the reading -/
def rIsE2 (K : PySem.W.Frag) (D a : Addr) (cls : Value) (d : Option Addr) : List V → Hp → VK → Prop := fun xs H Q => (cls = .ref D ∧ d = none) ∧ rIsE K D a xs H Q
theorem call_isE2 {X : Cx} {a D : Addr} {oe : Obj} {cls : Value} {d : Option Addr} {pn : List (Addr × Obj)} (C : ExcC X.K D) (hz : Zc cls d oe) (hf : ∃ vs, oe.data = .fields vs) :
    CallR (X.suite a ((a, oe) :: pn)) (.builtin "isinstance") (rIsE2 X.K D a cls d) := by
  intro pins s σ H xs us Q I r h
  obtain ⟨⟨e1, e2⟩, h⟩ := h
  subst e1 e2
  exact call_isE C hz hf pins s σ H xs us Q I r h
end My
namespace My
open PySem L2
/-! ### rules within an except suite, over the def's own K -/
theorem call_len_seqS {X : Cx} {a : Addr} {pn : List (Addr × Obj)} : CallR (X.suite a pn) (.builtin "len") (fun xs H Q => ∃ p ys, xs = [.ref p] ∧ (SqL X.K H p ys ∨ SqT X.K H p ys) ∧ Q (.int ys.length) H) := call_len_seq
end My
namespace My
open PySem L2
/-! ### fractions in lowest terms -/
def gcdI (t b : Int) : Int := ((Nat.gcd t.natAbs b.natAbs : Nat) : Int)
def shT (t b : Int) : Int := (if b < 0 then -t else t) / gcdI t b
def shB (t b : Int) : Int := (if b < 0 then -b else b) / gcdI t b
theorem gcdI_pos {t b : Int} (h : b ≠ 0) : 0 < gcdI t b := by
  unfold gcdI
  have : 0 < Nat.gcd t.natAbs b.natAbs := Nat.gcd_pos_of_pos_right _ (by omega)
  omega
theorem gcdI_dvd_l (t b : Int) : gcdI t b ∣ t := by
  unfold gcdI
  exact Int.ofNat_dvd_left.mpr (Nat.gcd_dvd_left _ _)
theorem gcdI_dvd_r (t b : Int) : gcdI t b ∣ b := by
  unfold gcdI
  exact Int.ofNat_dvd_left.mpr (Nat.gcd_dvd_right _ _)
/-- the sign taken to the top -/
theorem sh_form {t b : Int} (h : b ≠ 0) : ∃ s : Int, (s = 1 ∨ s = -1) ∧ shT t b * gcdI t b = s * t ∧ shB t b * gcdI t b = s * b ∧ 0 < s * b := by
  have hg := gcdI_pos (t := t) h
  unfold shT shB
  by_cases hb : b < 0
  · refine ⟨-1, .inr rfl, ?_, ?_, by omega⟩
    · rw [if_pos hb, Int.ediv_mul_cancel ((Int.dvd_neg).mpr (gcdI_dvd_l t b))]; omega
    · rw [if_pos hb, Int.ediv_mul_cancel ((Int.dvd_neg).mpr (gcdI_dvd_r t b))]; omega
  · refine ⟨1, .inl rfl, ?_, ?_, by omega⟩
    · rw [if_neg hb, Int.ediv_mul_cancel (gcdI_dvd_l t b)]; omega
    · rw [if_neg hb, Int.ediv_mul_cancel (gcdI_dvd_r t b)]; omega
theorem shB_pos {t b : Int} (h : b ≠ 0) : 1 ≤ shB t b := by
  obtain ⟨s, _, _, h2, h3⟩ := sh_form (t := t) h
  have hg := gcdI_pos (t := t) h
  rw [← h2] at h3
  have := Int.pos_of_mul_pos_left h3 hg
  omega
theorem sh_cross {t b : Int} (h : b ≠ 0) : shT t b * b = shB t b * t := by
  obtain ⟨s, hs, h1, h2, _⟩ := sh_form (t := t) h
  have hg := gcdI_pos (t := t) h
  have e1 : shT t b * gcdI t b * b = s * t * b := by rw [h1]
  have e2 : shB t b * gcdI t b * t = s * b * t := by rw [h2]
  have e3 : (shT t b * b) * gcdI t b = (shB t b * t) * gcdI t b := by
    rw [Int.mul_right_comm, e1, Int.mul_right_comm (shB t b), e2, Int.mul_right_comm]
  exact Int.eq_of_mul_eq_mul_right (by omega) e3
theorem sh_natAbs {t b : Int} (h : b ≠ 0) : (shT t b).natAbs * Nat.gcd t.natAbs b.natAbs = t.natAbs ∧ (shB t b).natAbs * Nat.gcd t.natAbs b.natAbs = b.natAbs := by
  obtain ⟨s, hs, h1, h2, _⟩ := sh_form (t := t) h
  have a1 := congrArg Int.natAbs h1
  have a2 := congrArg Int.natAbs h2
  have as : s.natAbs = 1 := by rcases hs with e | e <;> rw [e] <;> rfl
  rw [Int.natAbs_mul, Int.natAbs_mul, as, Nat.one_mul] at a1 a2
  exact ⟨a1, a2⟩
theorem sh_cop {t b : Int} (h : b ≠ 0) : Nat.gcd (shT t b).natAbs (shB t b).natAbs = 1 := by
  obtain ⟨h1, h2⟩ := sh_natAbs (t := t) h
  have hg : 0 < Nat.gcd t.natAbs b.natAbs := Nat.gcd_pos_of_pos_right _ (by omega)
  have e : Nat.gcd ((shT t b).natAbs * Nat.gcd t.natAbs b.natAbs) ((shB t b).natAbs * Nat.gcd t.natAbs b.natAbs) = Nat.gcd t.natAbs b.natAbs := by rw [h1, h2]
  rw [Nat.gcd_mul_right] at e
  exact Nat.eq_of_mul_eq_mul_right hg (by rw [e, Nat.one_mul])
theorem shT_le {t b : Int} (h : b ≠ 0) : (shT t b).natAbs ≤ t.natAbs := by
  obtain ⟨h1, h2⟩ := sh_natAbs (t := t) h
  have hg : 0 < Nat.gcd t.natAbs b.natAbs := Nat.gcd_pos_of_pos_right _ (by omega)
  calc (shT t b).natAbs ≤ (shT t b).natAbs * Nat.gcd t.natAbs b.natAbs := Nat.le_mul_of_pos_right _ hg
    _ = t.natAbs := h1
theorem shB_le {t b : Int} (h : b ≠ 0) : (shB t b).natAbs ≤ b.natAbs := by
  obtain ⟨h1, h2⟩ := sh_natAbs (t := t) h
  have hg : 0 < Nat.gcd t.natAbs b.natAbs := Nat.gcd_pos_of_pos_right _ (by omega)
  calc (shB t b).natAbs ≤ (shB t b).natAbs * Nat.gcd t.natAbs b.natAbs := Nat.le_mul_of_pos_right _ hg
    _ = b.natAbs := h2
/-- two fractions in lowest terms with the same quotient are one -/
theorem cop_unique {p q r s : Int} (hq : 1 ≤ q) (hs : 1 ≤ s) (c1 : Nat.gcd p.natAbs q.natAbs = 1) (c2 : Nat.gcd r.natAbs s.natAbs = 1) (e : p * s = r * q) : p = r ∧ q = s := by
  have e' : p.natAbs * s.natAbs = r.natAbs * q.natAbs := by
    have := congrArg Int.natAbs e
    rwa [Int.natAbs_mul, Int.natAbs_mul] at this
  have d1 : q.natAbs ∣ s.natAbs := by
    have : q.natAbs ∣ p.natAbs * s.natAbs := ⟨r.natAbs, by rw [e', Nat.mul_comm]⟩
    exact (Nat.Coprime.dvd_of_dvd_mul_left (by rw [Nat.coprime_comm]; exact c1) this)
  have d2 : s.natAbs ∣ q.natAbs := by
    have : s.natAbs ∣ r.natAbs * q.natAbs := ⟨p.natAbs, by rw [← e', Nat.mul_comm]⟩
    exact (Nat.Coprime.dvd_of_dvd_mul_left (by rw [Nat.coprime_comm]; exact c2) this)
  have e1 : q.natAbs = s.natAbs := Nat.dvd_antisymm d1 d2
  have e2 : q = s := by omega
  subst e2
  exact ⟨Int.eq_of_mul_eq_mul_right (by omega) e, rfl⟩
/-- equal quotients, crosswise -/
theorem cross_eq {t b p q r s : Int} (hb : b ≠ 0) (h1 : p * b = q * t) (h2 : r * b = s * t) : p * s = r * q := by
  have e : (p * s) * b = (r * q) * b := by
    rw [Int.mul_right_comm, h1, Int.mul_right_comm r, h2, Int.mul_right_comm, Int.mul_right_comm s, Int.mul_comm q s]
  exact Int.eq_of_mul_eq_mul_right hb e
/-! ### a Share on the heap -/
theorem tb : ¬ (("top" : Str) = "bottom") := by decide +kernel
def shF (t b : Int) : List (Str × V) := putF "bottom" (.int b) (putF "top" (.int t) [])
theorem shF_top (t b : Int) : (shF t b).lookup ("top" : Str) = some (.int t) := by
  unfold shF
  rw [lookup_putF, if_neg tb, lookup_putF, if_pos rfl]
theorem shF_bot (t b : Int) : (shF t b).lookup ("bottom" : Str) = some (.int b) := by
  unfold shF
  rw [lookup_putF, if_pos rfl]
theorem shF_no (t b : Int) {m : Str} (h1 : ¬ m = "bottom") (h2 : ¬ m = "top") : (shF t b).lookup m = none := by
  unfold shF
  rw [lookup_putF, if_neg h1, lookup_putF, if_neg h2]
  rfl
end My
local macro_rules | `(tactic| wtm_at "lk") => `(tactic| first | exact My.shF_top _ _ | exact My.shF_bot _ _)
namespace My
open PySem L2
/-- a Share t / b stands at x -/
def ShareAt (C : Addr) (H : Hp) (x : Addr) (t b : Int) : Prop := ∃ dx, H x = some (.ins C dx (shF t b))
theorem ShareAt.same {C : Addr} {H H' : Hp} {x : Addr} {t b : Int} (h : ShareAt C H x t b) (s : Same H H') : ShareAt C H' x t b := by
  obtain ⟨dx, h⟩ := h
  exact ⟨dx, s _ _ h⟩
theorem ShareAt.but {C p : Addr} {H H' : Hp} {x : Addr} {t b : Int} (h : ShareAt C H x t b) (s : But p H H') (n : x ≠ p) : ShareAt C H' x t b := by
  obtain ⟨dx, h⟩ := h
  exact ⟨dx, s _ _ h n⟩
/-- what Share(a, c) takes -/
def good (a c : V) : Prop := ∃ t b : Int, a = .int t ∧ c = .int b ∧ b ≠ 0
/-- Share.__init__ -/
@[irreducible] def spShare (K : PySem.W.Frag) (C B : Addr) : Sp := fun vs H Q E => ∃ (x dx : Addr) (a c : V), vs = [.ref x, a, c] ∧ H x = some (.ins C dx []) ∧ Kd K H a ∧ Kd K H c ∧
  (¬ good a c → E (.ref B) none H) ∧
  (∀ t b : Int, a = .int t → c = .int b → b ≠ 0 → t.natAbs < 2 ^ 4000 ∧ b.natAbs < 2 ^ 4000 ∧ ∀ H', H' x = some (.ins C dx (shF (shT t b) (shB t b))) → But x H H' → Q .non H')
theorem made_same {H : Hp} {x dx C : Addr} {fs : List (Str × V)} (nx : H x = none) (ndx : H dx = none) : Same H (upd (upd H dx (.own x)) x (.ins C dx fs)) := fun b o e => by
  rw [upd_ne (ne_of_none e nx), upd_ne (ne_of_none e ndx)]
  exact e
theorem share_ok {K : PySem.W.Frag} {C B : Addr} {H : Hp} {Q : VK} {E : XK} (t b : Int) (hb : b ≠ 0) (h1 : t.natAbs < 2 ^ 4000) (h2 : b.natAbs < 2 ^ 4000) {x dx : Addr} (nx : H x = none) (ndx : H dx = none)
    (k : ∀ H', ShareAt C H' x (shT t b) (shB t b) → Same H H' → Q .non H') : spShare K C B [.ref x, .int t, .int b] (upd (upd H dx (.own x)) x (.ins C dx [])) Q E := by
  unfold spShare
  refine ⟨x, dx, .int t, .int b, rfl, upd_same, .int t, .int b, fun ng => absurd ⟨t, b, rfl, rfl, hb⟩ ng, fun t' b' et eb _ => ?_⟩
  cases et; cases eb
  exact ⟨h1, h2, fun H' hx hk => k H' ⟨dx, hx⟩ fun y o e => hk y o (made_same nx ndx y o e) (ne_of_none e nx)⟩
theorem share_bad {K : PySem.W.Frag} {C B : Addr} {H : Hp} {Q : VK} {E : XK} {a c : V} (ng : ¬ good a c) (ha : ∀ H', Same H H' → Kd K H' a) (hc : ∀ H', Same H H' → Kd K H' c) {x dx : Addr} (nx : H x = none) (ndx : H dx = none)
    (k : ∀ H', Same H H' → E (.ref B) none H') : spShare K C B [.ref x, a, c] (upd (upd H dx (.own x)) x (.ins C dx [])) Q E := by
  have s := made_same (C := C) (fs := []) nx ndx
  unfold spShare
  exact ⟨x, dx, a, c, rfl, upd_same, ha _ s, hc _ s, fun _ => k _ s, fun t b et eb hb => absurd ⟨t, b, et, eb, hb⟩ ng⟩
/-! ### Euclid's steps -/
/-- _law_common -/
@[irreducible] def spCommon : Sp := fun vs H Q _ => ∃ a b : Int, vs = [.int a, .int b] ∧ 0 ≤ b ∧ a.natAbs < 2 ^ 400 ∧ b.natAbs < 2 ^ 400 ∧ Q (.int ((Nat.gcd a.natAbs b.natAbs : Nat) : Int)) H
theorem common_ok {a b : Int} {H : Hp} {Q : VK} {E : XK} (h0 : 0 ≤ b) (h1 : a.natAbs < 2 ^ 400) (h2 : b.natAbs < 2 ^ 400) (k : Q (.int ((Nat.gcd a.natAbs b.natAbs : Nat) : Int)) H) : spCommon [.int a, .int b] H Q E := by
  unfold spCommon
  exact ⟨a, b, rfl, h0, h1, h2, k⟩
/-- between two turns -/
structure Euc (g : Nat) (i : Nat) (x y : Int) : Prop where
  x0 : 0 ≤ x
  y0 : 0 ≤ y
  gc : Nat.gcd x.natAbs y.natAbs = g
  sm : i = 0 ∧ x.natAbs < 2 ^ 400 ∧ y.natAbs < 2 ^ 400 ∨ ∃ j, i = j + 1 ∧ y < x ∧ x.natAbs * y.natAbs * 2 ^ j < 2 ^ 800
theorem Euc.step {g i : Nat} {x y : Int} (e : Euc g i x y) (h : y ≠ 0) : Euc g (i + 1) y (x % y) := by
  obtain ⟨x0, y0, gc, sm⟩ := e
  have yp : 0 < y := by omega
  have r0 : 0 ≤ x % y := Int.emod_nonneg _ h
  have r1 : x % y < y := Int.emod_lt_of_pos _ yp
  have en : (x % y).natAbs = x.natAbs % y.natAbs := by
    obtain ⟨m, rfl⟩ : ∃ m : Nat, x = m := ⟨x.toNat, by omega⟩
    obtain ⟨n, rfl⟩ : ∃ n : Nat, y = n := ⟨y.toNat, by omega⟩
    rw [← Int.natCast_emod]
    rfl
  refine ⟨y0, r0, ?_, .inr ⟨i, rfl, r1, ?_⟩⟩
  · rw [en, Nat.gcd_comm, ← Nat.gcd_rec, Nat.gcd_comm]
    exact gc
  · rw [en]
    rcases sm with ⟨rfl, hx, hy⟩ | ⟨j, rfl, hlt, hm⟩
    · rw [Nat.pow_zero, Nat.mul_one]
      have hr : x.natAbs % y.natAbs < 2 ^ 400 := Nat.lt_of_le_of_lt (Nat.mod_le _ _) hx
      calc y.natAbs * (x.natAbs % y.natAbs) < 2 ^ 400 * 2 ^ 400 := Nat.mul_lt_mul'' hy hr
        _ = 2 ^ 800 := by rw [← Nat.pow_add]
    · have hyn : 0 < y.natAbs := by omega
      have hle : y.natAbs ≤ x.natAbs := by omega
      have h2 : 2 * (x.natAbs % y.natAbs) ≤ x.natAbs := by
        have d1 := Nat.mod_add_div x.natAbs y.natAbs
        have d2 : 1 ≤ x.natAbs / y.natAbs := (Nat.one_le_div_iff hyn).mpr hle
        have d3 : y.natAbs * 1 ≤ y.natAbs * (x.natAbs / y.natAbs) := Nat.mul_le_mul_left _ d2
        have d4 := Nat.mod_lt x.natAbs hyn
        omega
      calc y.natAbs * (x.natAbs % y.natAbs) * 2 ^ (j + 1) = y.natAbs * (2 * (x.natAbs % y.natAbs)) * 2 ^ j := by
            rw [Nat.pow_succ]; simp only [Nat.mul_comm, Nat.mul_left_comm, Nat.mul_assoc]
        _ ≤ y.natAbs * x.natAbs * 2 ^ j := Nat.mul_le_mul_right _ (Nat.mul_le_mul_left _ h2)
        _ = x.natAbs * y.natAbs * 2 ^ j := by rw [Nat.mul_comm y.natAbs]
        _ < 2 ^ 800 := hm
theorem Euc.last {g : Nat} {x y : Int} (e : Euc g 2000 x y) : y = 0 := by
  obtain ⟨x0, y0, gc, sm⟩ := e
  rcases sm with ⟨h, _⟩ | ⟨j, hj, hlt, hm⟩
  · cases h
  · have ej : j = 1999 := by omega
    subst ej
    by_cases hy : y = 0
    · exact hy
    · exfalso
      have h1 : 1 ≤ x.natAbs * y.natAbs := Nat.mul_pos (by omega) (by omega)
      have h2 : 1 * 2 ^ 1999 ≤ x.natAbs * y.natAbs * 2 ^ 1999 := Nat.mul_le_mul_right _ h1
      have h3 : 2 ^ 800 ≤ 2 ^ 1999 := Nat.pow_le_pow_right (by decide) (by decide)
      omega
theorem Euc.done {g i : Nat} {x : Int} (e : Euc g i x 0) : x = (g : Int) := by
  obtain ⟨x0, _, gc, sm⟩ := e
  clear sm
  rw [show (0 : Int).natAbs = 0 from rfl, Nat.gcd_zero_right] at gc
  omega
/-- _law_is_share, of a Share -/
@[irreducible] def spIsShare (C : Addr) : Sp := fun vs H Q _ => ∃ (x : Addr) (t b p q : Int), vs = [.ref x, .int t, .int b] ∧ ShareAt C H x p q ∧ 1 ≤ q ∧ p * b = q * t ∧ Nat.gcd p.natAbs q.natAbs = 1 ∧
  p.natAbs < 2 ^ 400 ∧ q.natAbs < 2 ^ 400 ∧ t.natAbs < 2 ^ 400 ∧ b.natAbs < 2 ^ 400 ∧ Q (.bl true) H
theorem isShare_ok {C : Addr} {H : Hp} {Q : VK} {E : XK} {x : Addr} {t b u v : Int} (hv : v ≠ 0) (h : ShareAt C H x (shT u v) (shB u v)) (hc : shT u v * b = shB u v * t) (h1 : u.natAbs < 2 ^ 400) (h2 : v.natAbs < 2 ^ 400) (h3 : t.natAbs < 2 ^ 400) (h4 : b.natAbs < 2 ^ 400)
    (k : Q (.bl true) H) : spIsShare C [.ref x, .int t, .int b] H Q E := by
  unfold spIsShare
  exact ⟨x, t, b, _, _, rfl, h, shB_pos hv, hc, sh_cop hv, Nat.lt_of_le_of_lt (shT_le hv) h1, Nat.lt_of_le_of_lt (shB_le hv) h2, h3, h4, k⟩
theorem isShare_lit {C : Addr} {H : Hp} {Q : VK} {E : XK} {x : Addr} {t b p q : Int} (h : ShareAt C H x p q) (hq : 1 ≤ q) (hc : p * b = q * t) (hg : Nat.gcd p.natAbs q.natAbs = 1) (h1 : p.natAbs < 2 ^ 400) (h2 : q.natAbs < 2 ^ 400) (h3 : t.natAbs < 2 ^ 400) (h4 : b.natAbs < 2 ^ 400)
    (k : Q (.bl true) H) : spIsShare C [.ref x, .int t, .int b] H Q E := by
  unfold spIsShare
  exact ⟨x, t, b, p, q, rfl, h, hq, hc, hg, h1, h2, h3, h4, k⟩
/-- _law_refused -/
@[irreducible] def spRefused (K : PySem.W.Frag) : Sp := fun vs H Q _ => ∃ a c : V, vs = [a, c] ∧ (∀ H', Same H H' → Kd K H' a) ∧ (∀ H', Same H H' → Kd K H' c) ∧ ¬ good a c ∧ ∀ H', Same H H' → Q (.bl true) H'
theorem refused_ok {K : PySem.W.Frag} {a c : V} {H : Hp} {Q : VK} {E : XK} (ha : ∀ H', Same H H' → Kd K H' a) (hc : ∀ H', Same H H' → Kd K H' c) (ng : ¬ good a c) (k : ∀ H', Same H H' → Q (.bl true) H') : spRefused K [a, c] H Q E := by
  unfold spRefused
  exact ⟨a, c, rfl, ha, hc, ng, k⟩
end My
namespace My
open PySem L2 PySem.W Builtin
/-! ### operators of an own class -/
/-- int op instance: the int's own method declines -/
def Declines (op : Operator) : Prop := ∀ (prog : Program) (w : World) (A : Around) (E : Value → Shared → Prop) (s : Shared) (i : Int) (t : Tok) (x C dx : Addr) (Q : Option Value → Shared → Prop),
  s.heap.get? x = some (PySem.W.instObj C dx) → Q none s → wpAny (model prog w) A (tryMethod (.int i t) (PySem.dunder op.info.2) (.ref x)) Q E s
theorem int_add_inst (a : Int) (t : Tok) (x C dx : Addr) :
    Meets (Builtin.«int.__add__» ⟨[.int a t, .ref x], []⟩) (fun _ R s => s.heap.get? x = some (PySem.W.instObj C dx) ∧ R (.ok (.ret Value.notImplemented)) s) :=
  .of_wp fun prog w A R s h => by obtain ⟨hp, g, d, tk, os⟩ := s; obtain ⟨hl, h⟩ := h; wp_walk; exact ⟨_, rfl, h⟩
theorem int_sub_inst (a : Int) (t : Tok) (x C dx : Addr) :
    Meets (Builtin.«int.__sub__» ⟨[.int a t, .ref x], []⟩) (fun _ R s => s.heap.get? x = some (PySem.W.instObj C dx) ∧ R (.ok (.ret Value.notImplemented)) s) :=
  .of_wp fun prog w A R s h => by obtain ⟨hp, g, d, tk, os⟩ := s; obtain ⟨hl, h⟩ := h; wp_walk; exact ⟨_, rfl, h⟩
theorem int_mul_inst (a : Int) (t : Tok) (x C dx : Addr) :
    Meets (Builtin.«int.__mul__» ⟨[.int a t, .ref x], []⟩) (fun _ R s => s.heap.get? x = some (PySem.W.instObj C dx) ∧ R (.ok (.ret Value.notImplemented)) s) :=
  .of_wp fun prog w A R s h => by obtain ⟨hp, g, d, tk, os⟩ := s; obtain ⟨hl, h⟩ := h; wp_walk; exact ⟨_, rfl, h⟩
theorem dec_add : Declines .Add := by
  intro prog w A E s i t x C dx Q hx q
  have e : PySem.dunder Operator.Add.info.2 = PySem.dunder "add" := congrArg PySem.dunder (by decide +kernel)
  rw [e]
  have c : wpAny (model prog w) A (call (.builtin "int.__add__") [.int i t, .ref x]) (fun v s' => v = .notImplemented ∧ Q none s') E s :=
    call_meets F.slot_int_add (typeIs_int s i t) F.entry_int_add (F.args_int_add_2 _ _) (int_add_inst i t x C dx) ⟨hx, rfl, q⟩
  have h1 := @wpAny_tryMethod_declines (model prog w) A E s (.int i t) (.ref x) "int" (PySem.dunder "add") "int.__add__" Q (typeIs_int s i t)
  exact h1 F.slot_int_add c
theorem dec_sub : Declines .Sub := by
  intro prog w A E s i t x C dx Q hx q
  have e : PySem.dunder Operator.Sub.info.2 = PySem.dunder "sub" := congrArg PySem.dunder (by decide +kernel)
  rw [e]
  have c : wpAny (model prog w) A (call (.builtin "int.__sub__") [.int i t, .ref x]) (fun v s' => v = .notImplemented ∧ Q none s') E s :=
    call_meets F.slot_int_sub (typeIs_int s i t) F.entry_int_sub (F.args_int_sub_2 _ _) (int_sub_inst i t x C dx) ⟨hx, rfl, q⟩
  have h1 := @wpAny_tryMethod_declines (model prog w) A E s (.int i t) (.ref x) "int" (PySem.dunder "sub") "int.__sub__" Q (typeIs_int s i t)
  exact h1 F.slot_int_sub c
theorem dec_mul : Declines .Mult := by
  intro prog w A E s i t x C dx Q hx q
  have e : PySem.dunder Operator.Mult.info.2 = PySem.dunder "mul" := congrArg PySem.dunder (by decide +kernel)
  rw [e]
  have c : wpAny (model prog w) A (call (.builtin "int.__mul__") [.int i t, .ref x]) (fun v s' => v = .notImplemented ∧ Q none s') E s :=
    call_meets F.slot_int_mul (typeIs_int s i t) F.entry_int_mul (F.args_int_mul_2 _ _) (int_mul_inst i t x C dx) ⟨hx, rfl, q⟩
  have h1 := @wpAny_tryMethod_declines (model prog w) A E s (.int i t) (.ref x) "int" (PySem.dunder "mul") "int.__mul__" Q (typeIs_int s i t)
  exact h1 F.slot_int_mul c
/-- what K must know of the class at C for the operator: g its own method, r the reflected one -/
structure BinF (K : PySem.W.Frag) (C : Addr) (op : Operator) (g r : Addr) : Prop where
  sf : selfFirst K C = true
  hs : findIn K (.ref C) (PySem.dunder op.info.2) = some (some (.ref g))
  hf : isFn K (.ref g) = true
  hr : findIn K (.ref C) (dunderR op.info.2) = some (some (.ref r))
  rf : isFn K (.ref r) = true
  h1 : ∃ fo, findIn K (.type "int") (PySem.dunder op.info.2) = some fo
  h2 : ∃ ro, findIn K (.type "int") (dunderR op.info.2) = some ro
  su : subIn K (.type "int") (.ref C) = some false
  us : subIn K (.ref C) (.type "int") = some false
section
variable {prog : Program} {w : World} {A : Around} {E : Value → Shared → Prop} {s : Shared} {K : PySem.W.Frag} {x C L g r : Addr} {h₀ : Heap} {m : Str → Option Value} {dx : Addr} {od : Option Obj}
theorem bin_right {op : Operator} {i : Int} {t : Tok} {Q : Value → Shared → Prop} (X : K.In s.heap) (I : InstAt s.heap x (PySem.W.instObj C dx) C od) (B : BinF K C op g r) (de : Declines op) (fi : fillsNumberSlot (.type "int") op.info.2 = pure true)
    (h : wpAny (model prog w) A (call (.ref r) [.ref x, .int i t]) (CmpBack Q) E s) : wpAny (model prog w) A (binaryOp op (.int i t) (.ref x)) Q E s := by
  obtain ⟨cd, rest, hcd, hm⟩ := ksp_first B.sf
  have hs := B.hs
  have hr := B.hr
  have de' := de prog w A E s i t x C dx
  rcases hi : op.info with ⟨sym, nm'⟩
  rw [hi] at hs hr fi de'
  dsimp only at hs hr fi de'
  have one := ksp_try X I hr B.rf h
  have ho : s.heap.get? x = some (PySem.W.instObj C dx) := I.1
  obtain ⟨hh, g', d, tt, os⟩ := s
  have L1 : Looks (model prog w) hh (typeOf (.int i t)) (.type "int") := Looks.of_pure rfl
  have L2 : Looks (model prog w) hh (typeOf (.ref x)) (.ref C) := I.type
  have L3 : Looks (model prog w) hh (fillsNumberSlot (.type "int") nm') true := Looks.of_pure fi
  have L4 : Looks (model prog w) hh (fillsNumberSlot (.ref C) nm') true := fills_K X hcd hm hs
  have L5 : Looks (model prog w) hh (isSubtype (.ref C) (.type "int")) false := looks_subIn X B.us
  have L7 : Looks (model prog w) hh (numberSlotInPython (.type "int") nm') false := Looks.of_pure rfl
  have hne : (Value.type "int" == Value.ref C) = false := Bool.eq_false_iff.mpr fun q => by cases beq_iff_eq.mp q
  simp only [binaryOp, hi]
  refine wpAny_holding (wpAny_bind ?_)
  unfold binaryOp1
  refine wpAny_bind (L1.at (wpAny_bind (L2.at (wpAny_bind (L3.at ?_)))))
  simp only [hne, Bool.false_eq_true, if_false]
  ksp_lk
  refine de' _ ho ?_
  ksp_lk
  refine wpAny_mono one (fun y s' hy => ?_) fun _ _ e => e
  obtain ⟨v, rfl, hq⟩ := hy
  ksp_lk
  exact hq
end
section
variable {X : Cx} {C g r : Addr} {op : Operator} {CX : CXT} {k : Nat} {fd : FuncData} {ps : List Str} {sp : Sp} {E : XK}
/-- o op y, y of the same class or an int -/
def rBinS (C : Addr) (sp : Sp) (E : XK) : R2 := fun x y H Q => ∃ a dx fs, x = .ref a ∧ H a = some (.ins C dx fs) ∧ ((∃ b dy gs, y = .ref b ∧ H b = some (.ins C dy gs)) ∨ ∃ i, y = .int i) ∧ sp [x, y] H Q E
def rBinR (C : Addr) (sp : Sp) (E : XK) : R2 := fun x y H Q => ∃ i b dy gs, x = .int i ∧ y = .ref b ∧ H b = some (.ins C dy gs) ∧ sp [y, x] H Q E
theorem back_of {Q : Value → Shared → Prop} {v : V} {u : Value} {s : Shared} (r : RelV v u) (q : Q u s) : CmpBack Q u s := by
  cases v with
  | non => cases (show u = _ from r); exact q
  | bl b => cases (show u = _ from r); exact q
  | int i => obtain ⟨t, e⟩ := (show ∃ t, u = Value.int i t from r); cases e; exact q
  | str i => obtain ⟨t, e⟩ := (show ∃ t, u = Value.str i t from r); cases e; exact q
  | byt i => obtain ⟨t, e⟩ := (show ∃ t, u = Value.bytes i t from r); cases e; exact q
  | flt i => obtain ⟨t, e⟩ := (show ∃ t, u = Value.float i t from r); cases e; exact q
  | ref a => cases (show u = _ from r); exact q
  | ty n => cases (show u = _ from r); exact q
theorem op_binS (B : BinF X.K C op g r) (F : FnOk X.prog X.w X.K X.mg X.base CX k g fd ps sp) (hr : Room k X.A) (hb : Binds X.K fd ps []) (hx : Passes CX X E) : OpR X (binaryOp op) (rBinS C sp E) := by
  intro pins s σ H x y v u Q I rx ry h
  obtain ⟨a, dx, fs, rfl, ha, hy, q⟩ := h
  cases (show v = Value.ref a from rx)
  obtain ⟨mA, O, _⟩ := ins_get I.hok ha
  obtain ⟨od, J, _⟩ := O.look
  obtain ⟨m, hF⟩ := I.fr
  have run : wpAny (model X.prog X.w) X.A (call (.ref g) [.ref a, u]) (CmpBack (EP X pins σ Q)) X.xe s := by
    refine wpAny_mono (run_fn (us := [.ref a, u]) (vs := [.ref a, y]) F hr hb .nil hx I (.cons rfl (.cons ry .nil)) q) (fun w s' z => ?_) fun _ _ e => e
    obtain ⟨z', H', I', rz, qz⟩ := z
    exact back_of rz ⟨z', H', I', rz, qz⟩
  rcases hy with ⟨b, dy, gs, rfl, hb'⟩ | ⟨i, rfl⟩
  · cases (show u = Value.ref b from ry)
    obtain ⟨mB, O2, _⟩ := ins_get I.hok hb'
    obtain ⟨ob, J2, _⟩ := O2.look
    exact binop_K hF I.ok.mod.kin J J2.type B.sf B.hs B.hf run
  · obtain ⟨t, e⟩ := (show ∃ t, u = Value.int i t from ry)
    cases e
    obtain ⟨fo, h1⟩ := B.h1
    obtain ⟨ro, h2⟩ := B.h2
    exact ksp_binT hF I.ok.mod.kin J rfl B.sf B.hs B.hf B.hr (.inr ⟨_, rfl⟩) h1 h2 B.su run
theorem op_binR (B : BinF X.K C op g r) (de : Declines op) (fi : fillsNumberSlot (.type "int") op.info.2 = pure true) (F : FnOk X.prog X.w X.K X.mg X.base CX k r fd ps sp) (hr : Room k X.A) (hb : Binds X.K fd ps []) (hx : Passes CX X E) : OpR X (binaryOp op) (rBinR C sp E) := by
  intro pins s σ H x y v u Q I rx ry h
  obtain ⟨i, b, dy, gs, rfl, rfl, hb', q⟩ := h
  cases (show u = Value.ref b from ry)
  obtain ⟨t, e⟩ := (show ∃ t, v = Value.int i t from rx)
  cases e
  obtain ⟨mB, O2, _⟩ := ins_get I.hok hb'
  obtain ⟨ob, J2, _⟩ := O2.look
  refine bin_right I.kIn J2 B de fi ?_
  refine wpAny_mono (run_fn (us := [.ref b, .int i t]) (vs := [.ref b, .int i]) F hr hb .nil hx I (.cons rfl (.cons ⟨t, rfl⟩ .nil)) q) (fun w s' z => ?_) fun _ _ e => e
  obtain ⟨z', H', I', rz, qz⟩ := z
  exact back_of rz ⟨z', H', I', rz, qz⟩
/-- -o -/
def rNegS (C : Addr) (sp : Sp) (E : XK) : V → Hp → VK → Prop := fun x H Q => ∃ a dx fs, x = .ref a ∧ H a = some (.ins C dx fs) ∧ sp [x] H Q E
theorem un_negS (hs : findIn X.K (.ref C) "__neg__" = some (some (.ref g))) (hf : isFn X.K (.ref g) = true) (F : FnOk X.prog X.w X.K X.mg X.base CX k g fd ps sp) (hr : Room k X.A) (hb : Binds X.K fd ps []) (hx : Passes CX X E) : UnR X (unaryOp .USub) (rNegS C sp E) := by
  intro pins s σ H x v Q I rx h
  obtain ⟨a, dx, fs, rfl, ha, q⟩ := h
  cases (show v = Value.ref a from rx)
  obtain ⟨mA, O, _⟩ := ins_get I.hok ha
  obtain ⟨od, J, _⟩ := O.look
  obtain ⟨m, hF⟩ := I.fr
  refine ksp_neg hF I.ok.mod.kin J hs hf ?_
  exact run_fn (us := [.ref a]) (vs := [.ref a]) F hr hb .nil hx I (.cons rfl .nil) q
end
end My
namespace My
open PySem L2
/-! ### numbers: ints and Shares -/
/-- x is the int p (then q is 1), or a Share p / q -/
def NumAt (C : Addr) (H : Hp) (x : V) (p q : Int) : Prop := (x = .int p ∧ q = 1) ∨ ∃ a, x = .ref a ∧ ShareAt C H a p q
theorem NumAt.same {C : Addr} {H H' : Hp} {x : V} {p q : Int} (h : NumAt C H x p q) (s : Same H H') : NumAt C H' x p q := by
  rcases h with h | ⟨a, e, h⟩
  · exact .inl h
  · exact .inr ⟨a, e, h.same s⟩
theorem NumAt.but {C r : Addr} {H H' : Hp} {x : V} {p q : Int} (h : NumAt C H x p q) (s : But r H H') (n : x ≠ .ref r) : NumAt C H' x p q := by
  rcases h with h | ⟨a, e, h⟩
  · exact .inl h
  · exact .inr ⟨a, e, h.but s fun z => n (by rw [e, z])⟩
theorem NumAt.int (C : Addr) (H : Hp) (i : Int) : NumAt C H (.int i) i 1 := .inl ⟨rfl, rfl⟩
theorem ShareAt.num {C : Addr} {H : Hp} {a : Addr} {p q : Int} (h : ShareAt C H a p q) : NumAt C H (.ref a) p q := .inr ⟨a, rfl, h⟩
theorem shT_one (p : Int) : shT p 1 = p := by
  have h := sh_cross (t := p) (b := 1) (by decide)
  have h1 : shB p 1 = 1 := by
    have a := shB_pos (t := p) (b := 1) (by decide)
    have b := shB_le (t := p) (b := 1) (by decide)
    rw [show (1 : Int).natAbs = 1 from rfl] at b
    omega
  rw [h1] at h
  omega
theorem shB_one (p : Int) : shB p 1 = 1 := by
  have a := shB_pos (t := p) (b := 1) (by decide)
  have b := shB_le (t := p) (b := 1) (by decide)
  rw [show (1 : Int).natAbs = 1 from rfl] at b
  omega
/-- a fraction in lowest terms is left as it is -/
theorem sh_self {p q : Int} (hq : 1 ≤ q) (hc : Nat.gcd p.natAbs q.natAbs = 1) : shT p q = p ∧ shB p q = q := by
  have h0 : q ≠ 0 := by omega
  exact cop_unique (shB_pos h0) hq (sh_cop h0) hc (by rw [sh_cross h0, Int.mul_comm])
/-- is_number, of a number -/
@[irreducible] def spIsNum (C : Addr) : Sp := fun vs H Q _ => ∃ (x : V) (p q : Int), vs = [x] ∧ NumAt C H x p q ∧ Q (.bl true) H
theorem isNum_ok {C : Addr} {H : Hp} {Q : VK} {E : XK} {x : V} {p q : Int} (h : NumAt C H x p q) (k : Q (.bl true) H) : spIsNum C [x] H Q E := by
  unfold spIsNum
  exact ⟨x, p, q, rfl, h, k⟩
/-- as_share -/
@[irreducible] def spAs (C : Addr) : Sp := fun vs H Q _ => ∃ (x : V) (p q : Int), vs = [x] ∧ NumAt C H x p q ∧ p.natAbs < 2 ^ 4000 ∧ ∀ a H', ShareAt C H' a p q → Same H H' → Q (.ref a) H'
theorem as_ok {C : Addr} {H : Hp} {Q : VK} {E : XK} {x : V} {p q : Int} (h : NumAt C H x p q) (hp : p.natAbs < 2 ^ 4000) (k : ∀ a H', ShareAt C H' a p q → Same H H' → Q (.ref a) H') : spAs C [x] H Q E := by
  unfold spAs
  exact ⟨x, p, q, rfl, h, hp, k⟩
/-- an operator of a Share and a number: f the top, the bottom is the product -/
@[irreducible] def spBin (C : Addr) (f : Int → Int → Int → Int → Int) : Sp := fun vs H Q _ => ∃ (a : Addr) (y : V) (p q r s : Int), vs = [.ref a, y] ∧ ShareAt C H a p q ∧ NumAt C H y r s ∧ 1 ≤ q ∧ 1 ≤ s ∧
  p.natAbs < 2 ^ 1900 ∧ q.natAbs < 2 ^ 1900 ∧ r.natAbs < 2 ^ 1900 ∧ s.natAbs < 2 ^ 1900 ∧
  ∀ z H', ShareAt C H' z (shT (f p q r s) (q * s)) (shB (f p q r s) (q * s)) → Same H H' → Q (.ref z) H'
theorem bin_ok {C : Addr} {f : Int → Int → Int → Int → Int} {H : Hp} {Q : VK} {E : XK} {a : Addr} {y : V} {p q r s : Int} (h : ShareAt C H a p q) (h' : NumAt C H y r s) (hq : 1 ≤ q) (hs : 1 ≤ s)
    (b1 : p.natAbs < 2 ^ 1900) (b2 : q.natAbs < 2 ^ 1900) (b3 : r.natAbs < 2 ^ 1900) (b4 : s.natAbs < 2 ^ 1900)
    (k : ∀ z H', ShareAt C H' z (shT (f p q r s) (q * s)) (shB (f p q r s) (q * s)) → Same H H' → Q (.ref z) H') : spBin C f [.ref a, y] H Q E := by
  unfold spBin
  exact ⟨a, y, p, q, r, s, rfl, h, h', hq, hs, b1, b2, b3, b4, k⟩
abbrev fAdd : Int → Int → Int → Int → Int := fun p q r s => p * s + r * q
abbrev fSub : Int → Int → Int → Int → Int := fun p q r s => p * s - r * q
abbrev fMul : Int → Int → Int → Int → Int := fun p _ r _ => p * r
/-- the reflected ones -/
@[irreducible] def spBinR (C : Addr) (f : Int → Int → Int → Int → Int) : Sp := fun vs H Q _ => ∃ (a : Addr) (p q i : Int), vs = [.ref a, .int i] ∧ ShareAt C H a p q ∧ 1 ≤ q ∧
  p.natAbs < 2 ^ 1900 ∧ q.natAbs < 2 ^ 1900 ∧ i.natAbs < 2 ^ 1900 ∧
  ∀ z H', ShareAt C H' z (shT (f i 1 p q) (1 * q)) (shB (f i 1 p q) (1 * q)) → Same H H' → Q (.ref z) H'
theorem binR_ok {C : Addr} {f : Int → Int → Int → Int → Int} {H : Hp} {Q : VK} {E : XK} {a : Addr} {p q i : Int} (h : ShareAt C H a p q) (hq : 1 ≤ q) (b1 : p.natAbs < 2 ^ 1900) (b2 : q.natAbs < 2 ^ 1900) (b3 : i.natAbs < 2 ^ 1900)
    (k : ∀ z H', ShareAt C H' z (shT (f i 1 p q) (1 * q)) (shB (f i 1 p q) (1 * q)) → Same H H' → Q (.ref z) H') : spBinR C f [.ref a, .int i] H Q E := by
  unfold spBinR
  exact ⟨a, p, q, i, rfl, h, hq, b1, b2, b3, k⟩
/-- -share -/
@[irreducible] def spNeg (C : Addr) : Sp := fun vs H Q _ => ∃ (a : Addr) (p q : Int), vs = [.ref a] ∧ ShareAt C H a p q ∧ 1 ≤ q ∧ p.natAbs < 2 ^ 1900 ∧ q.natAbs < 2 ^ 1900 ∧
  ∀ z H', ShareAt C H' z (shT (-p) q) (shB (-p) q) → Same H H' → Q (.ref z) H'
theorem neg_ok {C : Addr} {H : Hp} {Q : VK} {E : XK} {a : Addr} {p q : Int} (h : ShareAt C H a p q) (hq : 1 ≤ q) (b1 : p.natAbs < 2 ^ 1900) (b2 : q.natAbs < 2 ^ 1900)
    (k : ∀ z H', ShareAt C H' z (shT (-p) q) (shB (-p) q) → Same H H' → Q (.ref z) H') : spNeg C [.ref a] H Q E := by
  unfold spNeg
  exact ⟨a, p, q, rfl, h, hq, b1, b2, k⟩
theorem pos_mul {q s : Int} (hq : 1 ≤ q) (hs : 1 ≤ s) : 1 ≤ q * s := by
  have := Int.mul_pos (show 0 < q by omega) (show 0 < s by omega)
  omega
theorem add_lt {x y : Int} {n : Nat} (hx : x.natAbs < 2 ^ n) (hy : y.natAbs < 2 ^ n) : (x + y).natAbs < 2 ^ (n + 1) := by
  rw [Nat.pow_succ]
  omega
theorem sub_lt {x y : Int} {n : Nat} (hx : x.natAbs < 2 ^ n) (hy : y.natAbs < 2 ^ n) : (x - y).natAbs < 2 ^ (n + 1) := by
  rw [Nat.pow_succ]
  omega
theorem pow_lift {z : Int} {a b : Nat} (h : z.natAbs < 2 ^ a) (hab : a ≤ b) : z.natAbs < 2 ^ b := Nat.lt_of_lt_of_le h (Nat.pow_le_pow_right (by decide) hab)
/-- p / q in lowest terms of u / v, and u / v is x / w: then p / q is x / w -/
theorem cross_of {u v x w : Int} (hv : v ≠ 0) (h : u * w = v * x) : shT u v * w = shB u v * x := by
  have h1 := sh_cross (t := u) hv
  have e : (shT u v * w) * v = (shB u v * x) * v := by grind
  exact Int.eq_of_mul_eq_mul_right hv e
end My
namespace My
open PySem L2 PySem.W
section
variable {X : Cx} {C g : Addr} {CX : CXT} {k : Nat} {fd : FuncData} {ps : List Str} {sp : Sp} {E : XK}
/-- o == y by the class's own __eq__; y's type is t, not a class below C -/
def rEqS (K : PySem.W.Frag) (C : Addr) (sp : Sp) (E : XK) : R2 := fun x y H Q => ∃ a dx fs t, x = .ref a ∧ H a = some (.ins C dx fs) ∧ TyX K H y t ∧ PySem.W.notFirst K C t = true ∧ sp [x, y] H Q E
theorem op_eqS (hs : findIn X.K (.ref C) "__eq__" = some (some (.ref g))) (hf : isFn X.K (.ref g) = true) (F : FnOk X.prog X.w X.K X.mg X.base CX k g fd ps sp) (hr : Room k X.A) (hb : Binds X.K fd ps []) (hx : Passes CX X E)
    (hty : ∀ {pins : List (Addr × Obj)} {σ : L2.St} {H : Hp} {s : Shared} {y : V} {u t : Value}, Inv X pins σ H s → RelV y u → TyX X.K H y t → Looks (model X.prog X.w) s.heap (typeOf u) t) : OpR X (compareOp .Eq) (rEqS X.K C sp E) := by
  intro pins s σ H x y v u Q I rx ry h
  obtain ⟨a, dx, fs, t, rfl, ha, hy, hn, q⟩ := h
  cases (show v = Value.ref a from rx)
  obtain ⟨mA, O, _⟩ := ins_get I.hok ha
  obtain ⟨od, J, _⟩ := O.look
  obtain ⟨m, hF⟩ := I.fr
  show wpAny _ _ (richCompare .Eq (.ref a) u) _ _ _
  refine PySem.W.cmp_K (op := .Eq) (tb := t) hr.units0 hF I.ok.mod.kin J (hty I ry hy) hn hs hf ?_
  refine wpAny_mono (run_fn (us := [.ref a, u]) (vs := [.ref a, y]) F hr hb .nil hx I (.cons rfl (.cons ry .nil)) q) (fun w s' z => ?_) fun _ _ e => e
  obtain ⟨z', H', I', rz, qz⟩ := z
  exact back_of rz ⟨z', H', I', rz, qz⟩
end
/-- the type of a value, looked up -/
theorem ty_looks {X : Cx} {pins : List (Addr × Obj)} {σ : L2.St} {H : Hp} {s : Shared} {y : V} {u t : Value} (I : Inv X pins σ H s) (r : RelV y u) (h : TyX X.K H y t) : Looks (model X.prog X.w) s.heap (typeOf u) t := by
  have ref : ∀ {a : Addr} {o : Obj} {c : Value}, s.heap.get? a = some o → o.cls = c → Looks (model X.prog X.w) s.heap (typeOf (.ref a)) c := fun {a o c} e hc => by
    subst hc
    exact fun A Q E s' kp q => wpAny_typeOf_ref (kp _ _ e) q
  cases h with
  | base b =>
    cases b with
    | non => cases (show u = _ from r); exact Looks.of_pure rfl
    | bl y => cases (show u = _ from r); exact Looks.of_pure rfl
    | int i => obtain ⟨t, e⟩ := (show ∃ t, u = Value.int i t from r); cases e; exact Looks.of_pure rfl
    | str y => obtain ⟨t, e⟩ := (show ∃ t, u = Value.str y t from r); cases e; exact Looks.of_pure rfl
    | flt y => obtain ⟨t, e⟩ := (show ∃ t, u = Value.float y t from r); cases e; exact Looks.of_pure rfl
    | @lst a xs e =>
      cases (show u = Value.ref a from r)
      obtain ⟨_, _, n, _, h1⟩ := (show ObjOk X.prog X.w H s.heap a (.lst xs) from I.hok a _ e)
      exact ref h1 rfl
    | @frz a ob xs e =>
      cases (show u = Value.ref a from r)
      obtain ⟨_, _, _, n, _, h1⟩ := (show ObjOk X.prog X.w H s.heap a (.frz ob (.lst xs)) from I.hok a _ e)
      exact ref h1 rfl
    | @tup a xs e =>
      cases (show u = Value.ref a from r)
      obtain ⟨_, _, _, o, h1, h2, _⟩ := (show ObjOk X.prog X.w H s.heap a (.tup xs) from I.hok a _ e)
      exact ref h1 h2
    | @dK a kvs e =>
      cases (show u = Value.ref a from r)
      obtain ⟨_, _, vs, _, o, es, ep, h1, h2, _⟩ := (show ObjOk X.prog X.w H s.heap a (.dK kvs) from I.hok a _ e)
      exact ref h1 h2.1
    | @dT a kvs e =>
      cases (show u = Value.ref a from r)
      obtain ⟨_, _, xs, _, o, es, ep, h1, h2, _⟩ := (show ObjOk X.prog X.w H s.heap a (.dT kvs) from I.hok a _ e)
      exact ref h1 h2.1
    | @ins a C dx fs e cl ha hn htk hm =>
      cases (show u = Value.ref a from r)
      obtain ⟨mA, O, _⟩ := ins_get I.hok e
      exact ref O.obj rfl
  | byt b => obtain ⟨t, e⟩ := (show ∃ t, u = Value.bytes b t from r); cases e; exact Looks.of_pure rfl
  | @set a S n e =>
    cases (show u = Value.ref a from r)
    obtain ⟨o, _, _, _, h1, ex, _⟩ := I.hok a _ e
    exact ref h1 ex.1
  | @kList a o e c => cases (show u = Value.ref a from r); exact ref (I.kIn a o e) c
  | @kTuple a o e c => cases (show u = Value.ref a from r); exact ref (I.kIn a o e) c
  | @kDict a o e c => cases (show u = Value.ref a from r); exact ref (I.kIn a o e) c
  | @fTuple a ob xs e =>
    cases (show u = Value.ref a from r)
    obtain ⟨_, _, _, _, o, h1, h2, _⟩ := (show ObjOk X.prog X.w H s.heap a (.frz ob (.tup xs)) from I.hok a _ e)
    exact ref h1 h2
  | @fDict a ob kvs e =>
    cases (show u = Value.ref a from r)
    obtain ⟨_, _, _, vs, _, o, es, ep, h1, h2, _⟩ := (show ObjOk X.prog X.w H s.heap a (.frz ob (.dK kvs)) from I.hok a _ e)
    exact ref h1 h2.1
end My
namespace My
open PySem L2
/-- Share.__eq__: with a number, or with a thing that is none -/
@[irreducible] def spEq (K : PySem.W.Frag) (C : Addr) : Sp := fun vs H Q _ => ∃ (a : Addr) (y : V) (p q : Int), vs = [.ref a, y] ∧ ShareAt C H a p q ∧
  ((∃ r s, NumAt C H y r s ∧ ∀ b : Bool, (b = true ↔ p = r ∧ q = s) → Q (.bl b) H) ∨ (isI y = false ∧ Kd K H y ∧ (∃ t, TyX K H y t ∧ PySem.W.kitOne K t (.ref C) = some false) ∧ Q (.bl false) H))
theorem eqN_ok {K : PySem.W.Frag} {C : Addr} {H : Hp} {Q : VK} {E : XK} {a : Addr} {y : V} {p q r s : Int} (h : ShareAt C H a p q) (hy : NumAt C H y r s) (k : ∀ b : Bool, (b = true ↔ p = r ∧ q = s) → Q (.bl b) H) : spEq K C [.ref a, y] H Q E := by
  unfold spEq
  exact ⟨a, y, p, q, rfl, h, .inl ⟨r, s, hy, k⟩⟩
theorem eqO_ok {K : PySem.W.Frag} {C : Addr} {H : Hp} {Q : VK} {E : XK} {a : Addr} {y : V} {p q : Int} {t : Value} (h : ShareAt C H a p q) (hI : isI y = false) (hk : Kd K H y) (ht : TyX K H y t) (hn : PySem.W.kitOne K t (.ref C) = some false) (k : Q (.bl false) H) : spEq K C [.ref a, y] H Q E := by
  unfold spEq
  exact ⟨a, y, p, q, rfl, h, .inr ⟨hI, hk, ⟨t, ht, hn⟩, k⟩⟩
end My
namespace My
open PySem L2 PySem.W Builtin
theorem boolEq_inst (a : Bool) (x C dx : Addr) :
    Meets (Builtin.«int.__eq__» ⟨[.bool a, .ref x], []⟩) (fun _ R s => s.heap.get? x = some (PySem.W.instObj C dx) ∧ R (.ok (.ret Value.notImplemented)) s) :=
  .of_wp fun prog w A R s h => by obtain ⟨hp, g, d, tk, os⟩ := s; obtain ⟨hl, h⟩ := h; wp_walk using wpAny_loadPart' hl, wpAny_load hl; exact ⟨_, rfl, h⟩
theorem noneEq_inst (x C dx : Addr) :
    Meets (Builtin.«NoneType.__eq__» ⟨[.none, .ref x], []⟩) (fun _ R s => s.heap.get? x = some (PySem.W.instObj C dx) ∧ R (.ok (.ret Value.notImplemented)) s) :=
  .of_wp fun prog w A R s h => by obtain ⟨hp, g, d, tk, os⟩ := s; obtain ⟨hl, h⟩ := h; wp_walk; exact ⟨_, rfl, h⟩
theorem strEq_inst (a : Str) (t : Tok) (x C dx : Addr) :
    Meets (Builtin.«str.__eq__» ⟨[.str a t, .ref x], []⟩) (fun _ R s => s.heap.get? x = some (PySem.W.instObj C dx) ∧ R (.ok (.ret Value.notImplemented)) s) :=
  .of_wp fun prog w A R s h => by obtain ⟨hp, g, d, tk, os⟩ := s; obtain ⟨hl, h⟩ := h; wp_walk using wpAny_loadPart' hl, wpAny_load hl; exact ⟨_, rfl, h⟩
theorem listEq_inst (prog : Program) (w : World) (l x C dx : Addr) (items : Array Value) (n : Nat) {A : Around} {E : Value → Shared → Prop} {s : Shared} {Q : Value → Shared → Prop} (hl : s.heap.get? l = some { cls := .type "list", data := .seq items n })
    (hx : s.heap.get? x = some (PySem.W.instObj C dx)) (L : Looks (model prog w) s.heap (isSubtype (.ref C) (.type "list")) false) (h : Q .notImplemented s) :
    wpAny (model prog w) A (call (.builtin "list.__eq__") [.ref l, .ref x]) Q E s := by
  have g : MeetsIn prog w (Builtin.«list.__eq__» ⟨[.ref l, .ref x], []⟩) (fun _ R s' => s' = s ∧ R (.ok (.ret Value.notImplemented)) s') := by
    intro A R s' z
    obtain ⟨rfl, z⟩ := z
    obtain ⟨hp, g, d, tk, os⟩ := s'
    wp_walk using wpAny_loadPart' hl, wpAny_load hl, wpAny_load hx, L.here
    exact z
  exact call_meetsIn F.slot_list_eq ⟨_, hl, rfl⟩ F.entry_list_eq (F.args_list_eq_2 _ _) g ⟨rfl, h⟩
theorem tupEq_inst (prog : Program) (w : World) (l x C dx : Addr) (o : Obj) (items : Array Value) (n : Nat) {A : Around} {E : Value → Shared → Prop} {s : Shared} {Q : Value → Shared → Prop} (hl : s.heap.get? l = some o) (hc : o.cls = .type "tuple") (hd : o.data = .seq items n)
    (hx : s.heap.get? x = some (PySem.W.instObj C dx)) (L : Looks (model prog w) s.heap (isSubtype (.ref C) (.type "tuple")) false) (h : Q .notImplemented s) :
    wpAny (model prog w) A (call (.builtin "tuple.__eq__") [.ref l, .ref x]) Q E s := by
  have g : MeetsIn prog w (Builtin.«tuple.__eq__» ⟨[.ref l, .ref x], []⟩) (fun _ R s' => s' = s ∧ R (.ok (.ret Value.notImplemented)) s') := by
    intro A R s' z
    obtain ⟨rfl, z⟩ := z
    obtain ⟨hp, g, d, tk, os⟩ := s'
    wp_walk using wpAny_loadPart' hl, wpAny_load hl, wpAny_load hx, L.here
    exact z
  exact call_meetsIn F.slot_tuple_eq ⟨_, hl, hc⟩ F.entry_tuple_eq (F.args_tuple_eq_2 _ _) g ⟨rfl, h⟩
section
variable {prog : Program} {w : World} {A : Around} {E : Value → Shared → Prop} {s : Shared} {K : PySem.W.Frag} {x C g : Addr} {dx : Addr} {od : Option Obj}
/-- v == o: v's own method declines, then o's is asked -/
theorem eq_right {v : Value} {T : String} {Q : Value → Shared → Prop} (hu : A.units < cLine) (X : K.In s.heap) (I : InstAt s.heap x (PySem.W.instObj C dx) C od) (hv : Looks (model prog w) s.heap (typeOf v) (.type T)) (h1 : oneThing? .Eq v (.ref x) = none)
    (hsub : subIn K (.ref C) (.type T) = some false) (dec : ∀ Q' : Option Value → Shared → Prop, Q' none s → wpAny (model prog w) A (tryCompare v (cmpInfo .Eq).2.1 (.ref x)) Q' E s)
    (hs : findIn K (.ref C) "__eq__" = some (some (.ref g))) (hf : isFn K (.ref g) = true)
    (h : wpAny (model prog w) A (call (.ref g) [.ref x, v]) (CmpBack Q) E s) : wpAny (model prog w) A (richCompare .Eq v (.ref x)) Q E s := by
  have one : wpAny (model prog w) A (tryCompare (.ref x) (cmpInfo .Eq).2.2 v) (fun r s' => ∃ u, r = some u ∧ Q u s') E s := by
    unfold tryCompare
    refine wpAny_bind (ifBound_K X I hs hf (wpAny_mono h (fun u s' hv => ?_) fun _ _ e => e))
    cases u <;> first | exact hv.elim | exact wpAny_pure ⟨_, rfl, hv⟩
  have hne : (Value.type T != Value.ref C) = true := by simp
  unfold richCompare
  simp only [h1]
  refine wpAny_holding (wpAny_bind (wpAny_cRoomFor hu ?_))
  refine wpAny_bind (hv.here (wpAny_bind (I.type.here ?_)))
  simp only [hne, if_true]
  refine wpAny_bind ((looks_subIn X hsub).here ?_)
  simp only [Bool.false_eq_true, if_false]
  refine wpAny_bind (dec _ ?_)
  simp only [Bool.not_false, if_true]
  refine wpAny_bind (wpAny_mono one (fun r s' z => ?_) fun _ _ e => e)
  obtain ⟨u, rfl, hq⟩ := z
  exact wpAny_pure hq
end
/-- what K must know of the class at C for v == o -/
structure EqF (K : PySem.W.Frag) (C g : Addr) : Prop where
  hs : findIn K (.ref C) "__eq__" = some (some (.ref g))
  hf : isFn K (.ref g) = true
  s1 : subIn K (.ref C) (.type "bool") = some false
  s2 : subIn K (.ref C) (.type "NoneType") = some false
  s3 : subIn K (.ref C) (.type "str") = some false
  s4 : subIn K (.ref C) (.type "tuple") = some false
  s5 : subIn K (.ref C) (.type "list") = some false
/-- a bool, None, a text, a tuple, a list -/
def OddV (H : Hp) (x : V) : Prop := (∃ b, x = .bl b) ∨ x = .non ∨ (∃ z, x = .str z) ∨ ∃ a xs, x = .ref a ∧ (H a = some (.tup xs) ∨ H a = some (.lst xs))
section
variable {X : Cx} {C g : Addr} {CX : CXT} {k : Nat} {fd : FuncData} {ps : List Str} {sp : Sp} {E : XK}
def rEqR (C : Addr) (sp : Sp) (E : XK) : R2 := fun x y H Q => ∃ b dy gs, y = .ref b ∧ H b = some (.ins C dy gs) ∧ OddV H x ∧ sp [y, x] H Q E
theorem op_eqR (B : EqF X.K C g) (F : FnOk X.prog X.w X.K X.mg X.base CX k g fd ps sp) (hr : Room k X.A) (hb : Binds X.K fd ps []) (hx : Passes CX X E) : OpR X (compareOp .Eq) (rEqR C sp E) := by
  intro pins s σ H x y v u Q I rx ry h
  obtain ⟨b, dy, gs, rfl, hb', ho, q⟩ := h
  cases (show u = Value.ref b from ry)
  obtain ⟨mB, O2, _⟩ := ins_get I.hok hb'
  obtain ⟨ob, J, _⟩ := O2.look
  have hob : s.heap.get? b = some (PySem.W.instObj C dy) := J.1
  show wpAny _ _ (richCompare .Eq v (.ref b)) _ _ _
  have run : wpAny (model X.prog X.w) X.A (call (.ref g) [.ref b, v]) (CmpBack (EP X pins σ Q)) X.xe s := by
    refine wpAny_mono (run_fn (us := [.ref b, v]) (vs := [.ref b, x]) F hr hb .nil hx I (.cons rfl (.cons rx .nil)) q) (fun w s' z => ?_) fun _ _ e => e
    obtain ⟨z', H', I', rz, qz⟩ := z
    exact back_of rz ⟨z', H', I', rz, qz⟩
  have kin : X.K.In s.heap := I.kIn
  rcases ho with ⟨c, rfl⟩ | rfl | ⟨z, rfl⟩ | ⟨a, xs, rfl, ha⟩
  · cases (show v = _ from rx)
    refine eq_right (T := "bool") hr.units0 kin J (Looks.of_pure rfl) rfl B.s1 (fun Q' q' => ?_) B.hs B.hf run
    have c1 : wpAny (model X.prog X.w) X.A (call (.builtin "int.__eq__") [.bool c, .ref b]) (fun v s' => v = .notImplemented ∧ Q' none s') X.xe s := call_meets PySem.F.slot_bool_eq (typeIs_bool s c) PySem.F.entry_int_eq (PySem.F.args_int_eq_2 _ _) (boolEq_inst c b C dy) ⟨hob, rfl, q'⟩
    have h1 := @wpAny_tryCompare_declines (model X.prog X.w) X.A X.xe s (.bool c) (.ref b) "bool" (cmpInfo .Eq).2.1 "int.__eq__" Q' (typeIs_bool s c)
    exact h1 PySem.F.slot_bool_eq c1
  · cases (show v = _ from rx)
    refine eq_right (T := "NoneType") hr.units0 kin J (Looks.of_pure rfl) rfl B.s2 (fun Q' q' => ?_) B.hs B.hf run
    have c1 : wpAny (model X.prog X.w) X.A (call (.builtin "NoneType.__eq__") [.none, .ref b]) (fun v s' => v = .notImplemented ∧ Q' none s') X.xe s := call_meets PySem.F.slot_NoneType_eq (typeIs_none s) PySem.F.entry_NoneType_eq (PySem.F.args_NoneType_eq_2 _ _) (noneEq_inst b C dy) ⟨hob, rfl, q'⟩
    have h1 := @wpAny_tryCompare_declines (model X.prog X.w) X.A X.xe s .none (.ref b) "NoneType" (cmpInfo .Eq).2.1 "NoneType.__eq__" Q' (typeIs_none s)
    exact h1 PySem.F.slot_NoneType_eq c1
  · obtain ⟨t, e⟩ := (show ∃ t, v = Value.str z t from rx)
    cases e
    refine eq_right (T := "str") hr.units0 kin J (Looks.of_pure rfl) rfl B.s3 (fun Q' q' => ?_) B.hs B.hf run
    have c1 : wpAny (model X.prog X.w) X.A (call (.builtin "str.__eq__") [.str z t, .ref b]) (fun v s' => v = .notImplemented ∧ Q' none s') X.xe s := call_meets PySem.F.slot_str_eq (typeIs_str s z t) PySem.F.entry_str_eq (PySem.F.args_str_eq_2 _ _) (strEq_inst z t b C dy) ⟨hob, rfl, q'⟩
    have h1 := @wpAny_tryCompare_declines (model X.prog X.w) X.A X.xe s (.str z t) (.ref b) "str" (cmpInfo .Eq).2.1 "str.__eq__" Q' (typeIs_str s z t)
    exact h1 PySem.F.slot_str_eq c1
  · cases (show v = Value.ref a from rx)
    rcases ha with ha | ha
    · obtain ⟨_, its, _, o, e1, e2, n, e3⟩ := (show ObjOk X.prog X.w H s.heap a (.tup xs) from I.hok a _ ha)
      refine eq_right (T := "tuple") hr.units0 kin J (ty_looks (y := .ref a) I rfl (.base (.tup ha))) (by first | rfl | exact oneThing_ref _ _ _) B.s4 (fun Q' q' => ?_) B.hs B.hf run
      have c1 : wpAny (model X.prog X.w) X.A (call (.builtin "tuple.__eq__") [.ref a, .ref b]) (fun v s' => v = .notImplemented ∧ Q' none s') X.xe s := tupEq_inst X.prog X.w a b C dy o _ n e1 e2 e3 hob (looks_subIn kin B.s4) ⟨rfl, q'⟩
      have h1 := @wpAny_tryCompare_declines (model X.prog X.w) X.A X.xe s (.ref a) (.ref b) "tuple" (cmpInfo .Eq).2.1 "tuple.__eq__" Q' ⟨_, e1, e2⟩
      exact h1 PySem.F.slot_tuple_eq c1
    · obtain ⟨_, its, n, _, e1⟩ := (show ObjOk X.prog X.w H s.heap a (.lst xs) from I.hok a _ ha)
      refine eq_right (T := "list") hr.units0 kin J (ty_looks (y := .ref a) I rfl (.base (.lst ha))) (by first | rfl | exact oneThing_ref _ _ _) B.s5 (fun Q' q' => ?_) B.hs B.hf run
      have c1 : wpAny (model X.prog X.w) X.A (call (.builtin "list.__eq__") [.ref a, .ref b]) (fun v s' => v = .notImplemented ∧ Q' none s') X.xe s := listEq_inst X.prog X.w a b C dy _ n e1 hob (looks_subIn kin B.s5) ⟨rfl, q'⟩
      have h1 := @wpAny_tryCompare_declines (model X.prog X.w) X.A X.xe s (.ref a) (.ref b) "list" (cmpInfo .Eq).2.1 "list.__eq__" Q' ⟨_, e1, rfl⟩
      exact h1 PySem.F.slot_list_eq c1
/-- str(o) by the class's own __str__ -/
def rStrO (C : Addr) (sp : Sp) (E : XK) : List V → Hp → VK → Prop := fun xs H Q => ∃ a dx fs, xs = [.ref a] ∧ H a = some (.ins C dx fs) ∧ sp [.ref a] H (fun v H' => (∃ z, v = .str z) ∧ Q v H') E
theorem call_strO (hs : findIn X.K (.ref C) "__str__" = some (some (.ref g))) (hf : isFn X.K (.ref g) = true) (F : FnOk X.prog X.w X.K X.mg X.base CX k g fd ps sp) (hr : Room (k + 2) X.A) (hb : Binds X.K fd ps []) (hx : Passes CX X E) : CallR X (.type "str") (rStrO C sp E) := by
  intro pins s σ H xs us Q I r h
  obtain ⟨a, dx, fs, rfl, ha, q⟩ := h
  cases r with
  | cons r1 r2 =>
    cases r2
    rename_i u
    cases (show u = Value.ref a from r1)
    obtain ⟨mA, O, _⟩ := ins_get I.hok ha
    obtain ⟨od, J, _⟩ := O.look
    refine PySem.W.kso_call hr.in1.in1.units0 I.kIn J hs hf ?_
    have hl : ([Value.ref a] ++ []).length = ps.length := (F.len _ _ _ _ q : _)
    have bb := hb s [.ref a] I.kIn hl
    refine wpAny_call (codeAny_mono (F.run X.A.in1.in1 X.stack s H ⟨[.ref a], []⟩ [.ref a] [.ref a] _ E hr.in1.in1 I.env0.in1.in1 bb (.cons rfl .nil) q) fun y s' hy => ?_)
    match y, hy with
    | .error e, hy => exact hx pins σ H s e s' I hy
    | .ok (.ret v), hy =>
      obtain ⟨z, H', I', rz, ⟨w, rfl⟩, qz⟩ := I.after hy
      obtain ⟨t, e⟩ := (show ∃ t, v = Value.str w t from rz)
      cases e
      exact ⟨.str w, H', I', ⟨t, rfl⟩, qz⟩
    | .ok .next, hy => exact hy.elim
    | .ok .brk, hy => exact hy.elim
    | .ok .cont, hy => exact hy.elim
end
end My
namespace My
open PySem L2
/-! ### texts and order of Shares -/
theorem str_len (x y : Str) : (x ++ y).length = x.length + y.length := by
  show (x ++ y).cps.size = x.cps.size + y.cps.size
  rw [Str.cps_append, Array.size_append]
def numT (i : Int) : Str := Str.ofString (toString i)
def shText (p q : Int) : Str := if q = 1 then numT p else (numT p ++ Str.ofString "/") ++ numT q
theorem log_of {z : Int} {n : Nat} (h : z.natAbs < 2 ^ n) (h0 : 0 < n) (hn : n ≤ 1920) : z.natAbs.log2 < 1920 := Nat.lt_of_lt_of_le (PySem.Flt.log2_lt_of h0 h) hn
theorem numT_len {i : Int} (h : i.natAbs.log2 < 1920) : (numT i).length ≤ 1921 := PyProof.Rows.int_text_len_1921 h
/-- Share.__str__ and _law_text -/
@[irreducible] def spStr (C : Addr) : Sp := fun vs H Q _ => ∃ (a : Addr) (p q : Int), vs = [.ref a] ∧ ShareAt C H a p q ∧ p.natAbs < 2 ^ 1900 ∧ q.natAbs < 2 ^ 1900 ∧ Q (.str (shText p q)) H
theorem str_ok {C : Addr} {H : Hp} {Q : VK} {E : XK} {a : Addr} {p q : Int} (h : ShareAt C H a p q) (b1 : p.natAbs < 2 ^ 1900) (b2 : q.natAbs < 2 ^ 1900) (k : Q (.str (shText p q)) H) : spStr C [.ref a] H Q E := by
  unfold spStr
  exact ⟨a, p, q, rfl, h, b1, b2, k⟩
def sgn (z : Int) : Int := if z < 0 then -1 else if 0 < z then 1 else 0
@[irreducible] def spSign : Sp := fun vs H Q _ => ∃ z : Int, vs = [.int z] ∧ Q (.int (sgn z)) H
theorem sign_ok {H : Hp} {Q : VK} {E : XK} {z : Int} (k : Q (.int (sgn z)) H) : spSign [.int z] H Q E := by
  unfold spSign
  exact ⟨z, rfl, k⟩
/-- compare -/
@[irreducible] def spCmp (C : Addr) : Sp := fun vs H Q _ => ∃ (x y : V) (p q r s : Int), vs = [x, y] ∧ NumAt C H x p q ∧ NumAt C H y r s ∧ p.natAbs < 2 ^ 1900 ∧ q.natAbs < 2 ^ 1900 ∧ r.natAbs < 2 ^ 1900 ∧ s.natAbs < 2 ^ 1900 ∧
  ∀ H', Same H H' → Q (.int (sgn (p * s - r * q))) H'
theorem cmp_ok {C : Addr} {H : Hp} {Q : VK} {E : XK} {x y : V} {p q r s : Int} (h : NumAt C H x p q) (h' : NumAt C H y r s) (b1 : p.natAbs < 2 ^ 1900) (b2 : q.natAbs < 2 ^ 1900) (b3 : r.natAbs < 2 ^ 1900) (b4 : s.natAbs < 2 ^ 1900)
    (k : ∀ H', Same H H' → Q (.int (sgn (p * s - r * q))) H') : spCmp C [x, y] H Q E := by
  unfold spCmp
  exact ⟨x, y, p, q, r, s, rfl, h, h', b1, b2, b3, b4, k⟩
theorem sgn_neg (z : Int) : sgn (-z) = -sgn z := by
  unfold sgn
  split <;> split <;> first | omega | (split <;> omega)
theorem sgn_zero {z : Int} : sgn z = 0 ↔ z = 0 := by
  unfold sgn
  split
  · omega
  · split <;> omega
theorem sgn_mul {z k : Int} (hk : 0 < k) : sgn (z * k) = sgn z := by
  unfold sgn
  rcases Int.lt_trichotomy z 0 with h | h | h
  · rw [if_pos h, if_pos (Int.mul_neg_of_neg_of_pos h hk)]
  · subst h; simp
  · have h1 := Int.mul_pos h hk
    rw [if_neg (by omega), if_pos h1, if_neg (by omega), if_pos h]
/-- the order of two fractions is that of their lowest terms -/
theorem sgn_cross {a b c d p q r s : Int} (hb : 0 < b) (hd : 0 < d) (hq : 0 < q) (hs : 0 < s) (h1 : p * b = q * a) (h2 : r * d = s * c) : sgn (p * s - r * q) = sgn (a * d - c * b) := by
  have e : (p * s - r * q) * (b * d) = (a * d - c * b) * (q * s) := by grind
  rw [← sgn_mul (z := p * s - r * q) (Int.mul_pos hb hd), e, sgn_mul (Int.mul_pos hq hs)]
/-- a thing that equals no Share -/
structure Odd (K : PySem.W.Frag) (C : Addr) (H : Hp) (x : V) : Prop where
  ni : isI x = false
  kd : Kd K H x
  ty : ∃ t, TyX K H x t ∧ PySem.W.kitOne K t (.ref C) = some false ∧ PySem.W.notFirst K C t = true
  ov : OddV H x
/-- what K knows of the class beside built-in ones -/
structure OddF (K : PySem.W.Frag) (C : Addr) : Prop where
  k1 : PySem.W.kitOne K (.type "bool") (.ref C) = some false
  k2 : PySem.W.kitOne K (.type "NoneType") (.ref C) = some false
  k3 : PySem.W.kitOne K (.type "str") (.ref C) = some false
  k4 : PySem.W.kitOne K (.type "tuple") (.ref C) = some false
  k5 : PySem.W.kitOne K (.type "list") (.ref C) = some false
  n1 : PySem.W.notFirst K C (.type "bool") = true
  n2 : PySem.W.notFirst K C (.type "NoneType") = true
  n3 : PySem.W.notFirst K C (.type "str") = true
  n4 : PySem.W.notFirst K C (.type "tuple") = true
  n5 : PySem.W.notFirst K C (.type "list") = true
section
variable {K : PySem.W.Frag} {C : Addr} {H : Hp}
theorem OddF.bl (T : OddF K C) (b : Bool) : Odd K C H (.bl b) := ⟨rfl, .bl b, ⟨_, .base (.bl b), T.k1, T.n1⟩, .inl ⟨b, rfl⟩⟩
theorem OddF.non (T : OddF K C) : Odd K C H .non := ⟨rfl, .non, ⟨_, .base .non, T.k2, T.n2⟩, .inr (.inl rfl)⟩
theorem OddF.str (T : OddF K C) (z : Str) : Odd K C H (.str z) := ⟨rfl, .str z, ⟨_, .base (.str z), T.k3, T.n3⟩, .inr (.inr (.inl ⟨z, rfl⟩))⟩
theorem OddF.tup (T : OddF K C) {a : Addr} {xs : List V} (h : H a = some (.tup xs)) : Odd K C H (.ref a) := ⟨rfl, .tup h, ⟨_, .base (.tup h), T.k4, T.n4⟩, .inr (.inr (.inr ⟨a, xs, rfl, .inl h⟩))⟩
theorem OddF.lst (T : OddF K C) {a : Addr} {xs : List V} (h : H a = some (.lst xs)) : Odd K C H (.ref a) := ⟨rfl, .lst h, ⟨_, .base (.lst h), T.k5, T.n5⟩, .inr (.inr (.inr ⟨a, xs, rfl, .inr h⟩))⟩
end
end My
namespace My
open PySem L2
def top (i : Nat) : Stmt := PySem.Challenge.pw_seatatonce_k03_share_order_and_text.main.body.getD i (.Pass ⟨0, 0, 0, 0⟩)
abbrev s_is_whole : Stmt := top 5
abbrev s_Share___init__ : Stmt := inClass (top 6) 0
abbrev s_Share___eq__ : Stmt := inClass (top 6) 1
abbrev s_Share___str__ : Stmt := inClass (top 6) 2
abbrev s_as_share : Stmt := top 8
abbrev s_compare : Stmt := top 9
abbrev s__law_pool : Stmt := top 11
abbrev s__law_draw : Stmt := top 12
abbrev s__law_number : Stmt := top 13
abbrev s__law_is_integer : Stmt := top 14
abbrev s__law_sign : Stmt := top 17
abbrev s__law_text : Stmt := top 18
abbrev s_law : Stmt := top 19
theorem sc_is_whole : FnScope ["value"] ["value"] (defScope s_is_whole) := ⟨rfl, rfl, rfl, by decide +kernel, rfl, by decide +kernel, by decide +kernel⟩
theorem sc_Share___init__ : FnScope ["self", "top", "bottom", "common"] ["self", "top", "bottom"] (defScope s_Share___init__) := ⟨rfl, rfl, rfl, by decide +kernel, rfl, by decide +kernel, by decide +kernel⟩
theorem sc_Share___eq__ : FnScope ["self", "other"] ["self", "other"] (defScope s_Share___eq__) := ⟨rfl, rfl, rfl, by decide +kernel, rfl, by decide +kernel, by decide +kernel⟩
theorem sc_Share___str__ : FnScope ["self"] ["self"] (defScope s_Share___str__) := ⟨rfl, rfl, rfl, by decide +kernel, rfl, by decide +kernel, by decide +kernel⟩
theorem sc_as_share : FnScope ["value"] ["value"] (defScope s_as_share) := ⟨rfl, rfl, rfl, by decide +kernel, rfl, by decide +kernel, by decide +kernel⟩
theorem sc_compare : FnScope ["one", "other", "left", "right", "gap"] ["one", "other"] (defScope s_compare) := ⟨rfl, rfl, rfl, by decide +kernel, rfl, by decide +kernel, by decide +kernel⟩
theorem sc__law_pool : FnScope ["_law_script"] ["_law_script"] (defScope s__law_pool) := ⟨rfl, rfl, rfl, by decide +kernel, rfl, by decide +kernel, by decide +kernel⟩
theorem sc__law_draw : FnScope ["_law_pool_here", "_law_many", "_law_cell", "_law_digit", "_law_number_here"] ["_law_pool_here", "_law_many"] (defScope s__law_draw) := ⟨rfl, rfl, rfl, by decide +kernel, rfl, by decide +kernel, by decide +kernel⟩
theorem sc__law_number : FnScope ["_law_pool_here", "_law_parts", "_law_kind", "_law_number_here", "_law_k"] ["_law_pool_here", "_law_parts"] (defScope s__law_number) := ⟨rfl, rfl, rfl, by decide +kernel, rfl, by decide +kernel, by decide +kernel⟩
theorem sc__law_is_integer : FnScope ["_law_value"] ["_law_value"] (defScope s__law_is_integer) := ⟨rfl, rfl, rfl, by decide +kernel, rfl, by decide +kernel, by decide +kernel⟩
theorem sc__law_sign : FnScope ["_law_number_here"] ["_law_number_here"] (defScope s__law_sign) := ⟨rfl, rfl, rfl, by decide +kernel, rfl, by decide +kernel, by decide +kernel⟩
theorem sc__law_text : FnScope ["_law_share", "_law_text_here"] ["_law_share"] (defScope s__law_text) := ⟨rfl, rfl, rfl, by decide +kernel, rfl, by decide +kernel, by decide +kernel⟩
theorem sc_law : FnScope ["_law_script", "_law_pool_here", "_law_a", "_law_b", "_law_c", "_law_d", "_law_kind", "_law_factor", "_law_one", "_law_two", "_law_due", "_law_told", "_law_sign_here", "_law_odd"] ["_law_script"] (defScope s_law) := ⟨rfl, rfl, rfl, by decide +kernel, rfl, by decide +kernel, by decide +kernel⟩
structure Nms where
  a_is_whole : Addr
  d_is_whole : FuncData
  a_Share___init__ : Addr
  d_Share___init__ : FuncData
  a_Share___eq__ : Addr
  d_Share___eq__ : FuncData
  a_Share___str__ : Addr
  d_Share___str__ : FuncData
  a_as_share : Addr
  d_as_share : FuncData
  a_compare : Addr
  d_compare : FuncData
  a__law_pool : Addr
  d__law_pool : FuncData
  a__law_draw : Addr
  d__law_draw : FuncData
  a__law_number : Addr
  d__law_number : FuncData
  a__law_is_integer : Addr
  d__law_is_integer : FuncData
  a__law_sign : Addr
  d__law_sign : FuncData
  a__law_text : Addr
  d__law_text : FuncData
  a_law : Addr
  d_law : FuncData
  C_SeatError : Addr
  C_BadShare : Addr
  C_Share : Addr
structure Txt (K : PySem.W.Frag) (mg : Str → Option Value) (N : Nms) : Prop where
  z_isinstance : mg "isinstance" = none
  z_bool : mg "bool" = none
  z_int : mg "int" = none
  z_str : mg "str" = none
  z_list : mg "list" = none
  z_len : mg "len" = none
  z_range : mg "range" = none
  z_abs : mg "abs" = none
  F_is_whole : Fun K "is_whole" "is_whole" s_is_whole N.a_is_whole N.d_is_whole
  g_is_whole : mg "is_whole" = some (.ref N.a_is_whole)
  k_is_whole : PySem.W.keepIn K (.ref N.a_is_whole) = true
  b_is_whole : Binds K N.d_is_whole ["value"] []
  F_Share___init__ : FunD K "__init__" "Share.__init__" (defArgs s_Share___init__) (defBody s_Share___init__) (defScope s_Share___init__) [.int 1] [] N.a_Share___init__ N.d_Share___init__
  F_Share___eq__ : Fun K "__eq__" "Share.__eq__" s_Share___eq__ N.a_Share___eq__ N.d_Share___eq__
  b_Share___eq__ : Binds K N.d_Share___eq__ ["self", "other"] []
  F_Share___str__ : Fun K "__str__" "Share.__str__" s_Share___str__ N.a_Share___str__ N.d_Share___str__
  b_Share___str__ : Binds K N.d_Share___str__ ["self"] []
  F_as_share : Fun K "as_share" "as_share" s_as_share N.a_as_share N.d_as_share
  g_as_share : mg "as_share" = some (.ref N.a_as_share)
  k_as_share : PySem.W.keepIn K (.ref N.a_as_share) = true
  b_as_share : Binds K N.d_as_share ["value"] []
  F_compare : Fun K "compare" "compare" s_compare N.a_compare N.d_compare
  g_compare : mg "compare" = some (.ref N.a_compare)
  k_compare : PySem.W.keepIn K (.ref N.a_compare) = true
  b_compare : Binds K N.d_compare ["one", "other"] []
  F__law_pool : Fun K "_law_pool" "_law_pool" s__law_pool N.a__law_pool N.d__law_pool
  g__law_pool : mg "_law_pool" = some (.ref N.a__law_pool)
  k__law_pool : PySem.W.keepIn K (.ref N.a__law_pool) = true
  b__law_pool : Binds K N.d__law_pool ["_law_script"] []
  F__law_draw : Fun K "_law_draw" "_law_draw" s__law_draw N.a__law_draw N.d__law_draw
  g__law_draw : mg "_law_draw" = some (.ref N.a__law_draw)
  k__law_draw : PySem.W.keepIn K (.ref N.a__law_draw) = true
  b__law_draw : Binds K N.d__law_draw ["_law_pool_here", "_law_many"] []
  F__law_number : Fun K "_law_number" "_law_number" s__law_number N.a__law_number N.d__law_number
  g__law_number : mg "_law_number" = some (.ref N.a__law_number)
  k__law_number : PySem.W.keepIn K (.ref N.a__law_number) = true
  b__law_number : Binds K N.d__law_number ["_law_pool_here", "_law_parts"] []
  F__law_is_integer : Fun K "_law_is_integer" "_law_is_integer" s__law_is_integer N.a__law_is_integer N.d__law_is_integer
  g__law_is_integer : mg "_law_is_integer" = some (.ref N.a__law_is_integer)
  k__law_is_integer : PySem.W.keepIn K (.ref N.a__law_is_integer) = true
  b__law_is_integer : Binds K N.d__law_is_integer ["_law_value"] []
  F__law_sign : Fun K "_law_sign" "_law_sign" s__law_sign N.a__law_sign N.d__law_sign
  g__law_sign : mg "_law_sign" = some (.ref N.a__law_sign)
  k__law_sign : PySem.W.keepIn K (.ref N.a__law_sign) = true
  b__law_sign : Binds K N.d__law_sign ["_law_number_here"] []
  F__law_text : Fun K "_law_text" "_law_text" s__law_text N.a__law_text N.d__law_text
  g__law_text : mg "_law_text" = some (.ref N.a__law_text)
  k__law_text : PySem.W.keepIn K (.ref N.a__law_text) = true
  b__law_text : Binds K N.d__law_text ["_law_share"] []
  F_law : Fun K "law" "law" s_law N.a_law N.d_law
  g_law : mg "law" = some (.ref N.a_law)
  k_law : PySem.W.keepIn K (.ref N.a_law) = true
  b_law : Binds K N.d_law ["_law_script"] []
  g_SeatError : mg "SeatError" = some (.ref N.C_SeatError)
  x_SeatError : PySem.W.excIn K N.C_SeatError [.type "ValueError", .type "Exception", .type "BaseException", .type "object"] "ValueError.__new__" = true
  kp_SeatError : PySem.W.keepIn K (.ref N.C_SeatError) = true
  sb_SeatError : PySem.W.subIn K (.ref N.C_SeatError) (.type "BaseException") = some true
  ty_SeatError : PySem.W.typeIn K (.ref N.C_SeatError) = some (.type "type")
  te_SeatError : PySem.W.exmOne K (.ref N.C_SeatError) (.ref N.C_SeatError) = some true
  ec_SeatError : ExcC K N.C_SeatError
  g_BadShare : mg "BadShare" = some (.ref N.C_BadShare)
  x_BadShare : PySem.W.excIn K N.C_BadShare [.type "ValueError", .type "Exception", .type "BaseException", .type "object"] "ValueError.__new__" = true
  kp_BadShare : PySem.W.keepIn K (.ref N.C_BadShare) = true
  sb_BadShare : PySem.W.subIn K (.ref N.C_BadShare) (.type "BaseException") = some true
  ty_BadShare : PySem.W.typeIn K (.ref N.C_BadShare) = some (.type "type")
  te_BadShare : PySem.W.exmOne K (.ref N.C_BadShare) (.ref N.C_BadShare) = some true
  ec_BadShare : ExcC K N.C_BadShare
  g_Share : mg "Share" = some (.ref N.C_Share)
  ow_Share : OwnT K N.C_Share
  mk_Share : Mk K N.C_Share N.a_Share___init__
  na_Share_top : NoAttr K N.C_Share "top"
  na_Share_bottom : NoAttr K N.C_Share "bottom"
  kit_Share_int : PySem.W.kitOne K (.ref N.C_Share) (.type "int") = some false
  kit_Share_bool : PySem.W.kitOne K (.ref N.C_Share) (.type "bool") = some false
  kit_int_Share : PySem.W.kitOne K (.type "int") (.ref N.C_Share) = some false
  b_Share___init__ : Binds K N.d_Share___init__ ["self", "top", "bottom"] []
  bd_Share___init___1 : ∃ ds, Vals [.int 1] ds ∧ Binds K N.d_Share___init__ ["self", "top", "bottom"] ds
  c_gcd : mg "gcd" = some (.builtin "math.gcd")
  m_Share___str__ : PySem.W.findIn K (.ref N.C_Share) "__str__" = some (some (.ref N.a_Share___str__))
  i_Share___str__ : PySem.W.isFn K (.ref N.a_Share___str__) = true
  nf_Share : PySem.W.notFirst K N.C_Share (.ref N.C_Share) = true
  nf_int : PySem.W.notFirst K N.C_Share (.type "int") = true
  eqf : EqF K N.C_Share N.a_Share___eq__
  odf : OddF K N.C_Share
end My
namespace My
open PySem L2
section
variable {P : Program} {w : World} {K : PySem.W.Frag} {mg : Str → Option Value} {base : Heap} {N : Nms}
theorem ok_is_whole (T : Txt K mg N)  : FnOk P w K mg base CX0 1 N.a_is_whole N.d_is_whole ["value"] (spWhole K) := by
  refine T.F_is_whole.ok sc_is_whole (fun vs H Q E h => ?_) (fun cdv A outer s H vs Q E hr h => ?_)
  all_goals unfold spWhole at h
  · obtain ⟨x, rfl, _⟩ := h
    rfl
  · obtain ⟨x, rfl, ⟨t, ht, k1, k2⟩, k⟩ := h
    refine ⟨_, (pss_one (ps_ret (pe_and (pe_callB call_isi (by rfl) T.z_isinstance (by decide +kernel) (pa_cons (pv 0) (pa_cons (pe_bltn (v := .ty "int") (by rfl) T.z_int (by decide +kernel) rfl) pa_nil))) (pe_one (pe_not (pe_callB call_isi (by rfl) T.z_isinstance (by decide +kernel) (pa_cons (pv 0) (pa_cons (pe_bltn (v := .ty "bool") (by rfl) T.z_bool (by decide +kernel) rfl) pa_nil)))))))), ?_⟩
    refine ⟨_, rfl, _, _, _, _, _, rfl, .ty "int", ht, k1, _, rfl, ?_⟩
    cases x with
    | int i => exact iteT ⟨_, rfl, _, _, _, _, _, rfl, .ty "bool", ht, k2, _, rfl, k⟩
    | bl b => exact iteT ⟨_, rfl, _, _, _, _, _, rfl, .ty "bool", ht, k2, _, rfl, k⟩
    | _ => exact iteF k
theorem ok_Share___init__ (T : Txt K mg N) (G_is_whole : FnOk P w K mg base CX0 1 N.a_is_whole N.d_is_whole ["value"] (spWhole K)) : FnOk P w K mg base (L2.CX P w) 2 N.a_Share___init__ N.d_Share___init__ ["self", "top", "bottom"] (spShare K N.C_Share N.C_BadShare) := by
  refine T.F_Share___init__.ok sc_Share___init__ (fun vs H Q E h => ?_) (fun cdv A outer s H vs Q E hr h => ?_)
  all_goals unfold spShare at h
  · obtain ⟨x, dx, a, c, rfl, _⟩ := h
    rfl
  · obtain ⟨x, dx, a, c, rfl, hx, ka, kc, kE, kQ⟩ := h
    refine ⟨_, (pss_cons (ps_if (PW.pt (pw_or (pt_not (pt_val (pe_call G_is_whole (hr.mono (by decide)) rfl T.g_is_whole T.k_is_whole T.b_is_whole .nil pass0 (pa_cons (pv 1) pa_nil)))) (pw_or (pt_not (pt_val (pe_call G_is_whole (hr.mono (by decide)) rfl T.g_is_whole T.k_is_whole T.b_is_whole .nil pass0 (pa_cons (pv 2) pa_nil)))) (pw_or1 (pt_cmpR op_eq (pv 2) pe_int (nomark _))))))
  (pss_one (ps_raise rfl (takes_of rfl rfl rfl rfl) (pmk_own PySem.F.excBase_ValueError T.x_BadShare T.g_BadShare T.kp_BadShare (raises_own T.sb_BadShare T.ty_BadShare) rfl)))
  pss_nil)
  (C8.pss_cut (ps_if (pt_cmpR op_lt (pv 2) pe_int (nomark _))
  (pss_one (ps_par (i := 1) (j := 2) (by rfl) sc_Share___init__.nd rfl rfl (by decide) rfl rfl (pa_cons (pe_un un_neg (pv 1)) (pa_cons (pe_un un_neg (pv 2)) pa_nil)) (by rfl)))
  pss_nil)
  (pss_cons (ps_set (i := 3) sc_Share___init__.nd rfl (Or.inl rfl) (pe_callBfun cr_gcd rfl T.c_gcd (pa_cons (pv 1) (pa_cons (pv 2) pa_nil))))
  (pss_cons (ps_fld (pv 0) (pe_op op_fdivW (pv 1) (pv 3)) rfl)
  (pss_one (ps_fld (pv 0) (pe_op op_fdivW (pv 2) (pv 3)) rfl)))))), ?_⟩
    wtm_at "rd"
    refine whole_ok ka ?_
    wtm_at "rd"
    cases ea : isI a with
    | false =>
      refine iteT ?_
      refine iteT ?_
      exact kE fun ⟨t, b, e1, _, _⟩ => by subst e1; cases ea
    | true =>
      obtain ⟨t, rfl⟩ : ∃ t, a = .int t := by cases a <;> first | exact ⟨_, rfl⟩ | cases ea
      refine iteF ?_
      wtm_at "rd"
      refine whole_ok kc ?_
      wtm_at "rd"
      cases ec : isI c with
      | false =>
        refine iteT ?_
        refine iteT ?_
        exact kE fun ⟨t, b, _, e1, _⟩ => by subst e1; cases ec
      | true =>
        obtain ⟨b, rfl⟩ : ∃ b, c = .int b := by cases c <;> first | exact ⟨_, rfl⟩ | cases ec
        refine iteF ?_
        wtm_at "rd"
        refine ite2 (fun h0 => ?_) (fun h0 => ?_)
        · have h0 : b = 0 := V.int.inj (of_decide_eq_true h0)
          exact kE fun ⟨t, b', _, e1, e2⟩ => by cases e1; exact e2 h0
        · have h0 : b ≠ 0 := fun z => h0 (decide_eq_true (by rw [z]))
          obtain ⟨bt, bb, k⟩ := kQ t b rfl rfl h0
          clear kE kQ
          refine ⟨fun σ' H' => H' = H ∧ σ' = [some (.ref x), some (.int (if b < 0 then -t else t)), some (.int (if b < 0 then -b else b)), none], ?_, ?_⟩
          · wtm_at "rd"
            refine ite2 (fun h => ?_) (fun h => ?_)
            · have h : b < 0 := of_decide_eq_true h
              rw [if_pos h, if_pos h]
              wtm_at "rd"
              rfl
            · have h : ¬ b < 0 := fun z => h (decide_eq_true z)
              rw [if_neg h, if_neg h]
              exact ⟨rfl, rfl⟩
          · rintro σ' H' ⟨rfl, rfl⟩
            have eg : ((Nat.gcd (if b < 0 then -t else t).natAbs (if b < 0 then -b else b).natAbs : Nat) : Int) = gcdI t b := by
              unfold gcdI
              split <;> simp only [Int.natAbs_neg]
            have hg := gcdI_pos (t := t) h0
            have hgb : (gcdI t b).natAbs < 2 ^ 4000 := by
              have : (gcdI t b).natAbs ≤ b.natAbs := by
                unfold gcdI
                rw [Int.natAbs_natCast]
                exact Nat.gcd_le_right _ (by omega)
              exact Nat.lt_of_le_of_lt this bb
            wtm_at "rd"
            refine ⟨_, _, rfl, ?_⟩
            rw [eg]
            wtm_at "rd"
            refine ⟨wide_div hg hgb (by decide) (by decide), ?_⟩
            wtm_at "rd"
            refine ⟨_, _, _, _, rfl, hx, T.ow_Share.cl, T.na_Share_top, (by show 0 < 1000; decide), ?_⟩
            wtm_at "rd"
            refine ⟨wide_div hg hgb (by decide) (by decide), ?_⟩
            wtm_at "rd"
            refine ⟨_, _, _, _, rfl, upd_same, T.ow_Share.cl, T.na_Share_bottom, (by show 1 < 1000; decide), ?_⟩
            exact k _ upd_same (But.upd (But.upd (But.refl _ _)))
theorem ok_Share___eq__ (T : Txt K mg N) (G_is_whole : FnOk P w K mg base CX0 1 N.a_is_whole N.d_is_whole ["value"] (spWhole K)) : FnOk P w K mg base CX0 2 N.a_Share___eq__ N.d_Share___eq__ ["self", "other"] (spEq K N.C_Share) := by
  refine T.F_Share___eq__.ok sc_Share___eq__ (fun vs H Q E h => ?_) (fun cdv A outer s H vs Q E hr h => ?_)
  all_goals unfold spEq at h
  · obtain ⟨a, y, p, q, rfl, _⟩ := h
    rfl
  · obtain ⟨a, y, p, q, rfl, ⟨da, ha⟩, h⟩ := h
    refine ⟨_, (pss_cons (ps_if (pt_val (pe_call G_is_whole (hr.mono (by decide)) rfl T.g_is_whole T.k_is_whole T.b_is_whole .nil pass0 (pa_cons (pv 1) pa_nil)))
  (pss_one (ps_ret (pe_and (pe_cmpR op_eq (pe_fld (pv 0) rfl) (pv 1) (nomark _)) (pe_one (pe_cmpR op_eq (pe_fld (pv 0) rfl) pe_int (nomark _))))))
  pss_nil)
  (pss_one (ps_ret (pe_and (pe_callB call_isi (by rfl) T.z_isinstance (by decide +kernel) (pa_cons (pv 1) (pa_cons (pe_glob (v := .ref N.C_Share) rfl T.g_Share rfl) pa_nil))) (pe_and (pe_cmpR op_eq (pe_fld (pv 0) rfl) (pe_fld (pv 1) rfl) (nomark _)) (pe_one (pe_cmpR op_eq (pe_fld (pv 0) rfl) (pe_fld (pv 1) rfl) (nomark _)))))))), ?_⟩
    have c1 := T.ow_Share.cl
    have c2 := T.na_Share_top
    have c3 := T.na_Share_bottom
    rcases h with ⟨r, s, hy, k⟩ | ⟨hI, hk, ⟨t, ht, hn⟩, k⟩
    · rcases hy with ⟨rfl, rfl⟩ | ⟨b, rfl, db, hb⟩
      · wtm_at "rd"
        refine whole_ok (.int _) ?_
        wtm_at "rd"
        refine ite2 (fun h => ?_) (fun h => ?_)
        · have h : p = r := V.int.inj (of_decide_eq_true h)
          wtm_at "rd"
          exact k _ (by simp [h])
        · have h : ¬ p = r := fun z => h (decide_eq_true (congrArg V.int z))
          exact k _ (by simp [h])
      · wtm_at "rd"
        refine whole_ok ⟨_, T.ow_Share.ty hb, T.kit_Share_int, T.kit_Share_bool⟩ ?_
        wtm_at "rd"
        refine ⟨_, _, _, _, _, rfl, .own _, T.ow_Share.ty hb, kit_self, ?_⟩
        wtm_at "rd"
        refine ite2 (fun h => ?_) (fun h => ?_)
        · have h : p = r := V.int.inj (of_decide_eq_true h)
          wtm_at "rd"
          exact k _ (by simp [h])
        · have h : ¬ p = r := fun z => h (decide_eq_true (congrArg V.int z))
          exact k _ (by simp [h])
    · wtm_at "rd"
      refine whole_ok hk ?_
      rw [hI]
      wtm_at "rd"
      refine ⟨_, _, _, _, _, rfl, .own _, ht, hn, ?_⟩
      wtm_at "rd"
      exact k
theorem ok_Share___str__ (T : Txt K mg N)  : FnOk P w K mg base CX0 1 N.a_Share___str__ N.d_Share___str__ ["self"] (spStr N.C_Share) := by
  refine T.F_Share___str__.ok sc_Share___str__ (fun vs H Q E h => ?_) (fun cdv A outer s H vs Q E hr h => ?_)
  all_goals unfold spStr at h
  · obtain ⟨a, p, q, rfl, _⟩ := h
    rfl
  · obtain ⟨a, p, q, rfl, ⟨da, ha⟩, b1, b2, k⟩ := h
    refine ⟨_, (pss_cons (ps_if (pt_cmpR op_eq (pe_fld (pv 0) rfl) pe_int (nomark _))
  (pss_one (ps_ret (pe_callTy call_str_int (by rfl) T.z_str (by decide +kernel) (pa_cons (pe_fld (pv 0) rfl) pa_nil))))
  pss_nil)
  (pss_one (ps_ret (pe_joined (.cons (pe_fmt (pe_fld (pv 0) rfl)) (.cons pe_str (.cons (pe_fmt (pe_fld (pv 0) rfl)) .nil))))))), ?_⟩
    have c1 := T.ow_Share.cl
    have c2 := T.na_Share_top
    have c3 := T.na_Share_bottom
    have l1 := log_of b1 (by decide) (by decide)
    have l2 := log_of b2 (by decide) (by decide)
    have z1 := numT_len l1
    have z2 := numT_len l2
    wtm_at "rd"
    refine ite2 (fun h => ?_) (fun h => ?_)
    · have h : q = 1 := V.int.inj (of_decide_eq_true h)
      wtm_at "rd"
      refine ⟨l1, ?_⟩
      unfold shText at k
      rw [if_pos h] at k
      exact k
    · have h : ¬ q = 1 := fun z => h (decide_eq_true (congrArg V.int z))
      unfold shText at k
      rw [if_neg h] at k
      wtm_at "rd"
      have y1 : (Str.empty ++ numT p).length ≤ sizeLine := by rw [Str.empty_append]; exact Nat.le_trans z1 (by decide)
      have y2 : ((Str.empty ++ numT p) ++ Str.ofString "/").length ≤ sizeLine := by rw [Str.empty_append, str_len]; exact Nat.le_trans (Nat.add_le_add z1 (show (Str.ofString "/").length ≤ 1 by decide +kernel)) (by decide)
      have y3 : (((Str.empty ++ numT p) ++ Str.ofString "/") ++ numT q).length ≤ sizeLine := by rw [Str.empty_append, str_len, str_len]; exact Nat.le_trans (Nat.add_le_add (Nat.add_le_add z1 (show (Str.ofString "/").length ≤ 1 by decide +kernel)) z2) (by decide)
      refine Or.inr ⟨p, rfl, l1, _, rfl, y1, ?_⟩
      refine ⟨_, rfl, y2, ?_⟩
      wtm_at "rd"
      refine Or.inr ⟨q, rfl, l2, _, rfl, y3, ?_⟩
      have e : (((Str.empty ++ numT p) ++ Str.ofString "/") ++ numT q) = (numT p ++ Str.ofString "/") ++ numT q := by rw [Str.empty_append]
      show Q (.str (((Str.empty ++ numT p) ++ Str.ofString "/") ++ numT q)) H
      rw [e]
      exact k
theorem ok_as_share (T : Txt K mg N) (G_Share___init__ : FnOk P w K mg base (L2.CX P w) 2 N.a_Share___init__ N.d_Share___init__ ["self", "top", "bottom"] (spShare K N.C_Share N.C_BadShare)) : FnOk P w K mg base CX0 4 N.a_as_share N.d_as_share ["value"] (spAs N.C_Share) := by
  refine T.F_as_share.ok sc_as_share (fun vs H Q E h => ?_) (fun cdv A outer s H vs Q E hr h => ?_)
  all_goals unfold spAs at h
  · obtain ⟨x, p, q, rfl, _⟩ := h
    rfl
  · obtain ⟨x, p, q, rfl, hx, hp, k⟩ := h
    obtain ⟨ds_Share_1, vd_Share_1, bd_Share_1⟩ := T.bd_Share___init___1
    refine ⟨_, (pss_cons (ps_if (pt_val (pe_callB call_isi (by rfl) T.z_isinstance (by decide +kernel) (pa_cons (pv 0) (pa_cons (pe_glob (v := .ref N.C_Share) rfl T.g_Share rfl) pa_nil))))
  (pss_one (ps_ret (pv 0)))
  pss_nil)
  (pss_one (ps_ret (pe_make T.mk_Share G_Share___init__ (hr.mono (by decide)) rfl T.g_Share bd_Share_1 vd_Share_1 passL (pa_cons (pv 0) pa_nil))))), ?_⟩
    rcases hx with ⟨rfl, rfl⟩ | ⟨a, rfl, hx⟩
    · wtm_at "rd"
      refine ⟨_, _, _, _, _, rfl, .own _, .base (.int _), T.kit_int_Share, ?_⟩
      wtm_at "rd"
      intro y dy ny ndy ney
      refine share_ok p 1 (by decide) hp (by decide) ny ndy fun H' hS s' => ⟨rfl, ?_⟩
      rw [shT_one, shB_one] at hS
      exact k _ _ hS s'
    · obtain ⟨dx, hx'⟩ := id hx
      wtm_at "rd"
      refine ⟨_, _, _, _, _, rfl, .own _, T.ow_Share.ty hx', kit_self, ?_⟩
      wtm_at "rd"
      exact k _ _ hx (Same.refl _)
theorem ok_compare (T : Txt K mg N) (G_as_share : FnOk P w K mg base CX0 4 N.a_as_share N.d_as_share ["value"] (spAs N.C_Share)) : FnOk P w K mg base CX0 5 N.a_compare N.d_compare ["one", "other"] (spCmp N.C_Share) := by
  refine T.F_compare.ok sc_compare (fun vs H Q E h => ?_) (fun cdv A outer s H vs Q E hr h => ?_)
  all_goals unfold spCmp at h
  · obtain ⟨x, y, p, q, r, s, rfl, _⟩ := h
    rfl
  · obtain ⟨x, y, p, q, r, s, rfl, hx, hy, b1, b2, b3, b4, k⟩ := h
    refine ⟨_, (pss_cons (ps_set (i := 2) sc_compare.nd rfl (Or.inl rfl) (pe_call G_as_share (hr.mono (by decide)) rfl T.g_as_share T.k_as_share T.b_as_share .nil pass0 (pa_cons (pv 0) pa_nil)))
  (pss_cons (ps_set (i := 3) sc_compare.nd rfl (Or.inl rfl) (pe_call G_as_share (hr.mono (by decide)) rfl T.g_as_share T.k_as_share T.b_as_share .nil pass0 (pa_cons (pv 1) pa_nil)))
  (pss_cons (ps_set (i := 4) sc_compare.nd rfl (Or.inl rfl) (pe_op op_sub (pe_op op_mulW (pe_fld (pv 2) rfl) (pe_fld (pv 3) rfl)) (pe_op op_mulW (pe_fld (pv 3) rfl) (pe_fld (pv 2) rfl))))
  (pss_cons (ps_if (pt_cmpR op_lt (pv 4) pe_int (nomark _))
  (pss_one (ps_ret (pe_un un_neg pe_int)))
  pss_nil)
  (pss_cons (ps_if (pt_cmpR op_gt (pv 4) pe_int (nomark _))
  (pss_one (ps_ret pe_int))
  pss_nil)
  (pss_one (ps_ret pe_int))))))), ?_⟩
    have c1 := T.ow_Share.cl
    have c2 := T.na_Share_top
    have c3 := T.na_Share_bottom
    wtm_at "rd"
    refine as_ok hx (pow_lift b1 (by decide)) fun l H1 hl s1 => ?_
    wtm_at "rd"
    refine as_ok (hy.same s1) (pow_lift b3 (by decide)) fun m H2 hm s2 => ?_
    obtain ⟨dl, hl2⟩ := hl.same s2
    obtain ⟨dm, hm2⟩ := hm
    wtm_at "rd"
    refine ⟨wide_mul b1 b4 (by decide) (by decide) (by decide), ?_⟩
    wtm_at "rd"
    refine ⟨wide_mul b3 b2 (by decide) (by decide) (by decide), ?_⟩
    wtm_at "rd"
    have kk := k H2 (s1.trans s2)
    unfold sgn at kk
    refine ite2 (fun h => ?_) (fun h => ?_)
    · have h : p * s - r * q < 0 := of_decide_eq_true h
      rw [if_pos h] at kk
      wtm_at "rd"
      exact kk
    · have h : ¬ p * s - r * q < 0 := fun z => h (decide_eq_true z)
      rw [if_neg h] at kk
      wtm_at "rd"
      refine ite2 (fun h => ?_) (fun h => ?_)
      · have h : 0 < p * s - r * q := of_decide_eq_true h
        rw [if_pos h] at kk
        exact kk
      · have h : ¬ 0 < p * s - r * q := fun z => h (decide_eq_true z)
        rw [if_neg h] at kk
        exact kk
theorem ok__law_pool (T : Txt K mg N)  : FnOk P w K mg base CX0 1 N.a__law_pool N.d__law_pool ["_law_script"] (spPool K) := by
  refine T.F__law_pool.ok sc__law_pool (fun vs H Q E h => ?_) (fun cdv A outer s H vs Q E hr h => ?_)
  all_goals unfold spPool at h
  · obtain ⟨a, ns, rfl, _⟩ := h
    rfl
  · obtain ⟨a, ns, rfl, hS, k⟩ := h
    refine ⟨_, (pss_one (ps_ret (pe_lst (pa_cons (pe_callTy call_list_of (by rfl) T.z_list (by decide +kernel) (pa_cons (pv 0) pa_nil)) (pa_cons pe_int (pa_cons pe_int (pa_cons pe_int (pa_cons pe_int pa_nil)))))))), ?_⟩
    refine ⟨_, rfl, _, _, rfl, Or.inl hS, fun l hl => ?_⟩
    refine ⟨(by show 5 ≤ sizeLine; decide), fun p hp => ?_⟩
    have nlp : l ≠ p := by
      intro e; subst e; rw [upd_same] at hp; cases hp
    have hp0 : H p = none := by rw [upd_ne nlp.symm] at hp; exact hp
    exact k p l _ hp0 hl ⟨0, 0, 0, 1, upd_same, by rw [upd_ne nlp]; exact upd_same, by decide⟩ ((same_new hl).trans (same_new hp))
theorem ok__law_draw (T : Txt K mg N)  : FnOk P w K mg base CX0 1 N.a__law_draw N.d__law_draw ["_law_pool_here", "_law_many"] spDraw := by
  refine T.F__law_draw.ok sc__law_draw (fun vs H Q E h => ?_) (fun cdv A outer s H vs Q E hr h => ?_)
  all_goals unfold spDraw at h
  · obtain ⟨p, l, ns, m, rfl, _⟩ := h
    rfl
  · obtain ⟨p, l, ns, m, rfl, hP, hm, hm2, k⟩ := h
    have npl : l ≠ p := hP.ne
    obtain ⟨a, b, c, d, hp, hl, ha⟩ := hP
    refine ⟨_, (pss_cons (ps_asg (pe_op op_add (pe_ix ix_list (pv 0) pe_int (fun _ _ => rfl)) pe_int) (pg_sub (pv 0) pe_int set_list))
  (C8.pss_cut (ps_if (PW.pt (pw_and (pt_cmpR op_eq (pe_ix ix_list (pv 0) pe_int (fun _ _ => rfl)) pe_int (nomark _)) (pw_and1 (pt_cmpR op_lt (pe_ix ix_list (pv 0) pe_int (fun _ _ => rfl)) (pe_callB call_len_seq (by rfl) T.z_len (by decide +kernel) (pa_cons (pe_ix ix_list (pv 0) pe_int (fun _ _ => rfl)) pa_nil)) (nomark _)))))
  (pss_cons (ps_set (i := 2) sc__law_draw.nd rfl (Or.inl rfl) (pe_callTy call_int1 (by rfl) T.z_int (by decide +kernel) (pa_cons (pe_ix ix_list (pe_ix ix_list (pv 0) pe_int (fun _ _ => rfl)) (pe_ix ix_list (pv 0) pe_int (fun _ _ => rfl)) (fun _ _ => rfl)) pa_nil)))
  (pss_cons (ps_asg (pe_op op_add (pe_ix ix_list (pv 0) pe_int (fun _ _ => rfl)) pe_int) (pg_sub (pv 0) pe_int set_list))
  (pss_one (ps_if (pt_cmpR op_ge (pv 2) (pe_op op_pow pe_int pe_int) (nomark _))
  (pss_one (ps_asg (pv 2) (pg_sub (pv 0) pe_int set_list)))
  (pss_one (ps_asg (pe_op op_mod (pe_callTy call_int1 (by rfl) T.z_int (by decide +kernel) (pa_cons (pe_op op_add (pe_ix ix_list (pv 0) pe_int (fun _ _ => rfl)) (pe_op op_mul (pv 2) pe_int)) pa_nil)) pe_int) (pg_sub (pv 0) pe_int set_list)))))))
  pss_nil)
  (pss_cons (ps_if (pt_cmpR op_gt (pe_ix ix_list (pv 0) pe_int (fun _ _ => rfl)) pe_int (nomark _))
  (pss_cons (ps_set (i := 3) sc__law_draw.nd rfl (Or.inl rfl) (pe_op op_mod (pe_callTy call_int1 (by rfl) T.z_int (by decide +kernel) (pa_cons (pe_ix ix_list (pv 0) pe_int (fun _ _ => rfl)) pa_nil)) (pv 1)))
  (pss_cons (ps_asg (pe_op op_fdiv (pe_callTy call_int1 (by rfl) T.z_int (by decide +kernel) (pa_cons (pe_ix ix_list (pv 0) pe_int (fun _ _ => rfl)) pa_nil)) (pv 1)) (pg_sub (pv 0) pe_int set_list))
  (pss_one (ps_ret (pv 3)))))
  pss_nil)
  (pss_cons (ps_set (i := 4) sc__law_draw.nd rfl (Or.inl rfl) (pe_op op_mod (pe_callTy call_int1 (by rfl) T.z_int (by decide +kernel) (pa_cons (pe_op op_add (pe_op op_add (pe_ix ix_list (pv 0) pe_int (fun _ _ => rfl)) (pe_op op_mul (pe_ix ix_list (pv 0) pe_int (fun _ _ => rfl)) pe_int)) pe_int) pa_nil)) pe_int))
  (pss_cons (ps_set (i := 4) sc__law_draw.nd rfl (Or.inl rfl) (pe_op op_mod (pe_callTy call_int1 (by rfl) T.z_int (by decide +kernel) (pa_cons (pe_op op_mul (pv 4) (pe_op op_add (pe_op op_fdiv (pv 4) pe_int) pe_int)) pa_nil)) pe_int))
  (pss_cons (ps_set (i := 4) sc__law_draw.nd rfl (Or.inl rfl) (pe_op op_mod (pe_callTy call_int1 (by rfl) T.z_int (by decide +kernel) (pa_cons (pe_op op_mul (pv 4) (pe_op op_add (pe_op op_fdiv (pv 4) pe_int) pe_int)) pa_nil)) pe_int))
  (pss_cons (ps_asg (pv 4) (pg_sub (pv 0) pe_int set_list))
  (pss_one (ps_ret (pe_op op_mod (pe_callTy call_int1 (by rfl) T.z_int (by decide +kernel) (pa_cons (pe_op op_fdiv (pv 4) pe_int) pa_nil)) (pv 1))))))))))), ?_⟩
    wtm_at "rd"
    generalize eH1 : upd H p _ = H1
    have hp1 : H1 p = some (.lst [.ref l, .int a, .int b, .int (c + 1), .int d]) := by rw [← eH1]; exact upd_same
    have hl1 : H1 l = some (.lst (ns.map V.int)) := by rw [← eH1, upd_ne npl]; exact hl
    have b1 : But p H H1 := fun x o e n => by rw [← eH1, upd_ne n]; exact e
    clear eH1
    refine ⟨fun σ' H' => ∃ v a b c d, σ' = [some (.ref p), some (.int m), v, none, none] ∧ H' p = some (.lst [.ref l, .int a, .int b, .int c, .int d]) ∧ H' l = some (.lst (ns.map V.int)) ∧ 0 ≤ a ∧ But p H H', ?_, ?_⟩
    · wtm_at "rd"
      refine ite2 (fun h1 => ?_) (fun h1 => ?_)
      · wtm_at "rd"
        refine ite2 (fun h2 => ?_) (fun h2 => ?_)
        · have h2 : a < (ns.map V.int).length := of_decide_eq_true h2
          obtain ⟨j, rfl⟩ : ∃ j : Nat, a = j := ⟨a.toNat, by omega⟩
          have hj : j < ns.length := by simpa using h2
          wtm_at "rd"
          refine ⟨_, _, _, _, rfl, rfl, SqL.of hl1, atI_cell hj, ?_⟩
          wtm_at "rd"
          generalize eH2 : upd H1 p _ = H2
          have hp2 : H2 p = some (.lst [.ref l, .int ((j : Int) + 1), .int b, .int (c + 1), .int d]) := by rw [← eH2]; exact upd_same
          have hl2 : H2 l = some (.lst (ns.map V.int)) := by rw [← eH2, upd_ne npl]; exact hl1
          have b2 : But p H H2 := fun x o e n => by rw [← eH2, upd_ne n]; exact b1 x o e n
          clear eH2
          refine ite2 (fun h3 => ?_) (fun h3 => ?_)
          · wtm_at "rd"
            exact ⟨_, _, _, _, _, rfl, upd_same, by rw [upd_ne npl]; exact hl2, by omega, b2.upd⟩
          · wtm_at "rd"
            exact ⟨_, _, _, _, _, rfl, upd_same, by rw [upd_ne npl]; exact hl2, by omega, b2.upd⟩
        · exact ⟨none, _, _, _, _, rfl, hp1, hl1, ha, b1⟩
      · wtm_at "rd"
        exact ⟨none, _, _, _, _, rfl, hp1, hl1, ha, b1⟩
    · rintro σ' H1 ⟨v, a, b, c, d, rfl, hp1, hl1, ha, b1⟩
      wtm_at "rd"
      refine ite2 (fun h1 => ?_) (fun h1 => ?_)
      · wtm_at "rd"
        exact k _ _ (Int.emod_nonneg _ (by omega)) (Int.emod_lt_of_pos _ hm) ⟨_, _, _, _, upd_same, by rw [upd_ne npl]; exact hl1, ha⟩ b1.upd
      · wtm_at "rd"
        exact k _ _ (Int.emod_nonneg _ (by omega)) (Int.emod_lt_of_pos _ hm) ⟨_, _, _, _, upd_same, by rw [upd_ne npl]; exact hl1, ha⟩ b1.upd
theorem ok__law_number (T : Txt K mg N) (G__law_draw : FnOk P w K mg base CX0 1 N.a__law_draw N.d__law_draw ["_law_pool_here", "_law_many"] spDraw) : FnOk P w K mg base CX0 2 N.a__law_number N.d__law_number ["_law_pool_here", "_law_parts"] spNum := by
  refine T.F__law_number.ok sc__law_number (fun vs H Q E h => ?_) (fun cdv A outer s H vs Q E hr h => ?_)
  all_goals unfold spNum at h
  · obtain ⟨p, l, ns, m, rfl, _⟩ := h
    rfl
  · obtain ⟨p, l, ns, m, rfl, hP, hm, hm2, k⟩ := h
    refine ⟨_, (pss_cons (ps_set (i := 2) sc__law_number.nd rfl (Or.inl rfl) (pe_call G__law_draw (hr.mono (by decide)) rfl T.g__law_draw T.k__law_draw T.b__law_draw .nil pass0 (pa_cons (pv 0) (pa_cons pe_int pa_nil))))
  (pss_cons (ps_if (pt_cmpR op_eq (pv 2) pe_int (nomark _))
  (pss_one (ps_ret (pe_op op_sub (pe_call G__law_draw (hr.mono (by decide)) rfl T.g__law_draw T.k__law_draw T.b__law_draw .nil pass0 (pa_cons (pv 0) (pa_cons pe_int pa_nil))) pe_int)))
  pss_nil)
  (pss_cons (ps_set (i := 3) sc__law_number.nd rfl (Or.inl rfl) pe_int)
  (pss_cons (ps_for PassesOwn.never rfl (pi_range1 (by rfl) T.z_range (pa_cons (pe_op op_add pe_int (pe_call G__law_draw (hr.mono (by decide)) rfl T.g__law_draw T.k__law_draw T.b__law_draw .nil pass0 (pa_cons (pv 0) (pa_cons (pv 1) pa_nil)))) pa_nil)) (pg_name (i := 4) sc__law_number.nd rfl (Or.inl rfl))
  (pss_one (ps_set (i := 3) sc__law_number.nd rfl (Or.inl rfl) (pe_op op_add (pe_op op_mul (pv 3) pe_int) (pe_call G__law_draw (hr.mono (by decide)) rfl T.g__law_draw T.k__law_draw T.b__law_draw .nil pass0 (pa_cons (pv 0) (pa_cons pe_int pa_nil)))))))
  (pss_cons (ps_if (pt_cmpR op_eq (pv 2) pe_int (nomark _))
  (pss_one (ps_ret (pe_un un_neg (pv 3))))
  pss_nil)
  (pss_one (ps_ret (pv 3)))))))), ?_⟩
    have big : 10000000 ≤ 10000000 ^ m := by
      calc 10000000 = 10000000 ^ 1 := by rw [Nat.pow_one]
        _ ≤ 10000000 ^ m := Nat.pow_le_pow_right (by decide) hm
    wtm_at "rd"
    refine draw_ok hP (by decide) (by decide) fun kd H1 k0 k1 hP1 b1 => ?_
    wtm_at "rd"
    refine ite2 (fun h1 => ?_) (fun h1 => ?_)
    · wtm_at "rd"
      refine draw_ok hP1 (by decide) (by decide) fun d H2 d0 d1 hP2 b2 => ?_
      wtm_at "rd"
      exact k _ _ (by show (d - 2).natAbs < _; omega) hP2 (b1.trans b2)
    · wtm_at "rd"
      refine draw_ok hP1 (by omega) (by omega) fun n H2 n0 n1 hP2 b2 => ?_
      wtm_at "rd"
      refine ⟨(by show -(2 ^ 62) ≤ 1 + n; omega), (by show 1 + n < 2 ^ 62; omega), ?_⟩
      refine for_range (lo := 0) (n := (1 + n).toNat) (fun i σ H3 => ∃ (z : Int) (v : Option V), σ = [some (.ref p), some (.int m), some (.int kd), some (.int z), v] ∧ Pool H3 p l ns ∧ But p H H3 ∧ 0 ≤ z ∧ z < ((10000000 ^ i : Nat) : Int)) ⟨0, none, rfl, hP2, b1.trans b2, by decide, by decide⟩ ?_ ?_
      · rintro i σ H3 hi ⟨z, v, rfl, hP3, b3, z0, z1⟩
        wtm_at "rd"
        refine draw_ok hP3 (by decide) (by decide) fun d H4 d0 d1 hP4 b4 => ?_
        wtm_at "rd"
        refine ⟨z * 10000000 + d, _, rfl, hP4, b3.trans b4, by omega, ?_⟩
        rw [Nat.pow_succ]
        omega
      · rintro σ H3 ⟨z, v, rfl, hP3, b3, z0, z1⟩
        have hz : z.natAbs < 10000000 ^ m := by
          have hle : (1 + n).toNat ≤ m := by omega
          have := Nat.pow_le_pow_right (n := 10000000) (by decide) hle
          omega
        wtm_at "rd"
        refine ite2 (fun h2 => ?_) (fun h2 => ?_)
        · wtm_at "rd"
          exact k _ _ (by show (-z).natAbs < _; omega) hP3 b3
        · wtm_at "rd"
          exact k _ _ hz hP3 b3
theorem ok__law_is_integer (T : Txt K mg N)  : FnOk P w K mg base CX0 1 N.a__law_is_integer N.d__law_is_integer ["_law_value"] (spWhole K) := by
  refine T.F__law_is_integer.ok sc__law_is_integer (fun vs H Q E h => ?_) (fun cdv A outer s H vs Q E hr h => ?_)
  all_goals unfold spWhole at h
  · obtain ⟨x, rfl, _⟩ := h
    rfl
  · obtain ⟨x, rfl, ⟨t, ht, k1, k2⟩, k⟩ := h
    refine ⟨_, (pss_one (ps_ret (pe_and (pe_callB call_isi (by rfl) T.z_isinstance (by decide +kernel) (pa_cons (pv 0) (pa_cons (pe_bltn (v := .ty "int") (by rfl) T.z_int (by decide +kernel) rfl) pa_nil))) (pe_one (pe_not (pe_callB call_isi (by rfl) T.z_isinstance (by decide +kernel) (pa_cons (pv 0) (pa_cons (pe_bltn (v := .ty "bool") (by rfl) T.z_bool (by decide +kernel) rfl) pa_nil)))))))), ?_⟩
    refine ⟨_, rfl, _, _, _, _, _, rfl, .ty "int", ht, k1, _, rfl, ?_⟩
    cases x with
    | int i => exact iteT ⟨_, rfl, _, _, _, _, _, rfl, .ty "bool", ht, k2, _, rfl, k⟩
    | bl b => exact iteT ⟨_, rfl, _, _, _, _, _, rfl, .ty "bool", ht, k2, _, rfl, k⟩
    | _ => exact iteF k
theorem ok__law_sign (T : Txt K mg N)  : FnOk P w K mg base CX0 1 N.a__law_sign N.d__law_sign ["_law_number_here"] spSign := by
  refine T.F__law_sign.ok sc__law_sign (fun vs H Q E h => ?_) (fun cdv A outer s H vs Q E hr h => ?_)
  all_goals unfold spSign at h
  · obtain ⟨z, rfl, _⟩ := h
    rfl
  · obtain ⟨z, rfl, k⟩ := h
    refine ⟨_, (pss_cons (ps_if (pt_cmpR op_lt (pv 0) pe_int (nomark _))
  (pss_one (ps_ret (pe_un un_neg pe_int)))
  pss_nil)
  (pss_cons (ps_if (pt_cmpR op_gt (pv 0) pe_int (nomark _))
  (pss_one (ps_ret pe_int))
  pss_nil)
  (pss_one (ps_ret pe_int)))), ?_⟩
    unfold sgn at k
    wtm_at "rd"
    refine ite2 (fun h => ?_) (fun h => ?_)
    · have h : z < 0 := of_decide_eq_true h
      rw [if_pos h] at k
      wtm_at "rd"
      exact k
    · have h : ¬ z < 0 := fun y => h (decide_eq_true y)
      rw [if_neg h] at k
      wtm_at "rd"
      refine ite2 (fun h => ?_) (fun h => ?_)
      · have h : 0 < z := of_decide_eq_true h
        rw [if_pos h] at k
        exact k
      · have h : ¬ 0 < z := fun y => h (decide_eq_true y)
        rw [if_neg h] at k
        exact k
theorem ok__law_text (T : Txt K mg N)  : FnOk P w K mg base CX0 1 N.a__law_text N.d__law_text ["_law_share"] (spStr N.C_Share) := by
  refine T.F__law_text.ok sc__law_text (fun vs H Q E h => ?_) (fun cdv A outer s H vs Q E hr h => ?_)
  all_goals unfold spStr at h
  · obtain ⟨a, p, q, rfl, _⟩ := h
    rfl
  · obtain ⟨a, p, q, rfl, ⟨da, ha⟩, b1, b2, k⟩ := h
    refine ⟨_, (pss_cons (ps_set (i := 1) sc__law_text.nd rfl (Or.inl rfl) (pe_callTy call_str_int (by rfl) T.z_str (by decide +kernel) (pa_cons (pe_fld (pv 0) rfl) pa_nil)))
  (pss_cons (ps_if (pt_cmpR op_ne (pe_fld (pv 0) rfl) pe_int (nomark _))
  (pss_one (ps_set (i := 1) sc__law_text.nd rfl (Or.inl rfl) (pe_op op_add_str (pe_op op_add_str (pv 1) pe_str) (pe_callTy call_str_int (by rfl) T.z_str (by decide +kernel) (pa_cons (pe_fld (pv 0) rfl) pa_nil)))))
  pss_nil)
  (pss_one (ps_ret (pv 1))))), ?_⟩
    have c1 := T.ow_Share.cl
    have c2 := T.na_Share_top
    have c3 := T.na_Share_bottom
    have l1 := log_of b1 (by decide) (by decide)
    have l2 := log_of b2 (by decide) (by decide)
    have z1 := numT_len l1
    have z2 := numT_len l2
    wtm_at "rd"
    refine ⟨l1, ?_⟩
    wtm_at "rd"
    refine ite2 (fun h => ?_) (fun h => ?_)
    · have h : ¬ q = 1 := fun z => by subst z; exact absurd h (by decide)
      unfold shText at k
      rw [if_neg h] at k
      wtm_at "rd"
      refine ⟨Nat.le_trans (Nat.add_le_add z1 (show (Str.ofString "/").length ≤ 1 by decide +kernel)) (by decide), ?_⟩
      wtm_at "rd"
      refine ⟨l2, ?_⟩
      refine ⟨_, _, rfl, rfl, ?_, ?_⟩
      rotate_left
      · wtm_at "rd"
        exact k
      show (numT p ++ Str.ofString "/").length + (numT q).length ≤ sizeLine
      rw [str_len]
      exact Nat.le_trans (Nat.add_le_add (Nat.add_le_add z1 (show (Str.ofString "/").length ≤ 1 by decide +kernel)) z2) (by decide)
    · have h : q = 1 := Decidable.byContradiction fun z => h (by rw [decide_eq_false (fun y => z (V.int.inj y))]; rfl)
      unfold shText at k
      rw [if_pos h] at k
      wtm_at "rd"
      exact k
theorem ok_law (T : Txt K mg N) (G_Share___init__ : FnOk P w K mg base (L2.CX P w) 2 N.a_Share___init__ N.d_Share___init__ ["self", "top", "bottom"] (spShare K N.C_Share N.C_BadShare)) (G__law_text : FnOk P w K mg base CX0 1 N.a__law_text N.d__law_text ["_law_share"] (spStr N.C_Share)) (G_compare : FnOk P w K mg base CX0 5 N.a_compare N.d_compare ["one", "other"] (spCmp N.C_Share)) (G__law_sign : FnOk P w K mg base CX0 1 N.a__law_sign N.d__law_sign ["_law_number_here"] spSign) (G__law_is_integer : FnOk P w K mg base CX0 1 N.a__law_is_integer N.d__law_is_integer ["_law_value"] (spWhole K)) (G__law_draw : FnOk P w K mg base CX0 1 N.a__law_draw N.d__law_draw ["_law_pool_here", "_law_many"] spDraw) (G__law_number : FnOk P w K mg base CX0 2 N.a__law_number N.d__law_number ["_law_pool_here", "_law_parts"] spNum) (G__law_pool : FnOk P w K mg base CX0 1 N.a__law_pool N.d__law_pool ["_law_script"] (spPool K)) (G_Share___eq__ : FnOk P w K mg base CX0 2 N.a_Share___eq__ N.d_Share___eq__ ["self", "other"] (spEq K N.C_Share)) (G_Share___str__ : FnOk P w K mg base CX0 1 N.a_Share___str__ N.d_Share___str__ ["self"] (spStr N.C_Share)) : FnOk P w K mg base CX0 9 N.a_law N.d_law ["_law_script"] (spLaw K) := by
  refine T.F_law.ok sc_law (fun vs H Q E h => ?_) (fun cdv A outer s H vs Q E hr h => ?_)
  all_goals unfold spLaw at h
  · obtain ⟨a, ns, rfl, _⟩ := h
    rfl
  · obtain ⟨a, ns, rfl, hS, hn, k⟩ := h
    obtain ⟨ds_Share_1, vd_Share_1, bd_Share_1⟩ := T.bd_Share___init___1
    refine ⟨_, (pss_cons (ps_set (i := 1) sc_law.nd rfl (Or.inl rfl) (pe_call G__law_pool (hr.mono (by decide)) rfl T.g__law_pool T.k__law_pool T.b__law_pool .nil pass0 (pa_cons (pv 0) pa_nil)))
  (pss_cons (ps_set (i := 2) sc_law.nd rfl (Or.inl rfl) (pe_call G__law_number (hr.mono (by decide)) rfl T.g__law_number T.k__law_number T.b__law_number .nil pass0 (pa_cons (pv 1) (pa_cons pe_int pa_nil))))
  (pss_cons (ps_set (i := 3) sc_law.nd rfl (Or.inl rfl) (pe_op op_add (pe_callB call_abs (by rfl) T.z_abs (by decide +kernel) (pa_cons (pe_call G__law_number (hr.mono (by decide)) rfl T.g__law_number T.k__law_number T.b__law_number .nil pass0 (pa_cons (pv 1) (pa_cons pe_int pa_nil))) pa_nil)) pe_int))
  (pss_cons (ps_set (i := 4) sc_law.nd rfl (Or.inl rfl) (pe_call G__law_number (hr.mono (by decide)) rfl T.g__law_number T.k__law_number T.b__law_number .nil pass0 (pa_cons (pv 1) (pa_cons pe_int pa_nil))))
  (pss_cons (ps_set (i := 5) sc_law.nd rfl (Or.inl rfl) (pe_op op_add (pe_callB call_abs (by rfl) T.z_abs (by decide +kernel) (pa_cons (pe_call G__law_number (hr.mono (by decide)) rfl T.g__law_number T.k__law_number T.b__law_number .nil pass0 (pa_cons (pv 1) (pa_cons pe_int pa_nil))) pa_nil)) pe_int))
  (pss_cons (ps_set (i := 6) sc_law.nd rfl (Or.inl rfl) (pe_call G__law_draw (hr.mono (by decide)) rfl T.g__law_draw T.k__law_draw T.b__law_draw .nil pass0 (pa_cons (pv 1) (pa_cons pe_int pa_nil))))
  (C8.pss_cut (ps_if (pt_cmpR op_eq (pv 6) pe_int (nomark _))
  (pss_cons (ps_set (i := 7) sc_law.nd rfl (Or.inl rfl) (pe_op op_add pe_int (pe_call G__law_draw (hr.mono (by decide)) rfl T.g__law_draw T.k__law_draw T.b__law_draw .nil pass0 (pa_cons (pv 1) (pa_cons pe_int pa_nil)))))
  (pss_cons (ps_set (i := 4) sc_law.nd rfl (Or.inl rfl) (pe_op op_mul (pv 2) (pv 7)))
  (pss_one (ps_set (i := 5) sc_law.nd rfl (Or.inl rfl) (pe_op op_mul (pv 3) (pv 7))))))
  pss_nil)
  (C8.pss_cut (ps_if (pt_cmpR op_eq (pv 6) pe_int (nomark _))
  (pss_one (ps_set (i := 5) sc_law.nd rfl (Or.inl rfl) pe_int))
  pss_nil)
  (pss_cons (ps_set (i := 8) sc_law.nd rfl (Or.inl rfl) (pe_make T.mk_Share G_Share___init__ (hr.mono (by decide)) rfl T.g_Share T.b_Share___init__ .nil passL (pa_cons (pv 2) (pa_cons (pv 3) pa_nil))))
  (pss_cons (ps_set (i := 9) sc_law.nd rfl (Or.inl rfl) (pe_make T.mk_Share G_Share___init__ (hr.mono (by decide)) rfl T.g_Share T.b_Share___init__ .nil passL (pa_cons (pv 4) (pa_cons (pv 5) pa_nil))))
  (pss_cons (ps_set (i := 10) sc_law.nd rfl (Or.inl rfl) (pe_call G__law_sign (hr.mono (by decide)) rfl T.g__law_sign T.k__law_sign T.b__law_sign .nil pass0 (pa_cons (pe_op op_sub (pe_op op_mul (pv 2) (pv 5)) (pe_op op_mul (pv 4) (pv 3))) pa_nil)))
  (pss_cons (ps_set (i := 11) sc_law.nd rfl (Or.inl rfl) (pe_lst (pa_cons (pe_call G_compare (hr.mono (by decide)) rfl T.g_compare T.k_compare T.b_compare .nil pass0 (pa_cons (pv 8) (pa_cons (pv 9) pa_nil))) (pa_cons (pe_un un_neg (pe_call G_compare (hr.mono (by decide)) rfl T.g_compare T.k_compare T.b_compare .nil pass0 (pa_cons (pv 9) (pa_cons (pv 8) pa_nil)))) pa_nil))))
  (C8.pss_cut (ps_if (pt_cmpR op_eq (pv 6) pe_int (nomark _))
  (pss_one (ps_set (i := 11) sc_law.nd rfl (Or.inl rfl) (pe_op op_cat (pv 11) (pe_lst (pa_cons (pe_call G_compare (hr.mono (by decide)) rfl T.g_compare T.k_compare T.b_compare .nil pass0 (pa_cons (pv 8) (pa_cons (pv 4) pa_nil))) (pa_cons (pe_un un_neg (pe_call G_compare (hr.mono (by decide)) rfl T.g_compare T.k_compare T.b_compare .nil pass0 (pa_cons (pv 4) (pa_cons (pv 8) pa_nil)))) pa_nil))))))
  pss_nil)
  (pss_cons (ps_for PassesOwn.never rfl (pi_list (pv 11)) (pg_name (i := 12) sc_law.nd rfl (Or.inl rfl))
  (pss_one (ps_if (PW.pt (pw_or (pt_not (pt_val (pe_call G__law_is_integer (hr.mono (by decide)) rfl T.g__law_is_integer T.k__law_is_integer T.b__law_is_integer .nil pass0 (pa_cons (pv 12) pa_nil)))) (pw_or1 (pt_cmpR op_ne (pv 12) (pv 10) (nomark _)))))
  (pss_one (ps_ret pe_bl))
  pss_nil)))
  (pss_cons (ps_if (PW.pt (pw_or (pt_cmpR op_ne (pe_cmpR (op_eqS T.eqf.hs T.eqf.hf G_Share___eq__ (hr.mono (by decide)) T.b_Share___eq__ pass0 ty_looks) (pv 8) (pv 9) (nomark _)) (pe_cmpR op_eq (pv 10) pe_int (nomark _)) (nomark _)) (pw_or1 (pt_cmpR op_ne (pe_cmpR (op_eqS T.eqf.hs T.eqf.hf G_Share___eq__ (hr.mono (by decide)) T.b_Share___eq__ pass0 ty_looks) (pv 9) (pv 8) (nomark _)) (pe_cmpR op_eq (pv 10) pe_int (nomark _)) (nomark _)))))
  (pss_one (ps_ret pe_bl))
  pss_nil)
  (pss_cons (ps_if (PW.pt (pw_and (pt_cmpR op_eq (pv 6) pe_int (nomark _)) (pw_and1 (pt_cmpR op_ne (pe_cmpR (op_eqS T.eqf.hs T.eqf.hf G_Share___eq__ (hr.mono (by decide)) T.b_Share___eq__ pass0 ty_looks) (pv 8) (pv 4) (nomark _)) (pe_cmpR op_eq (pv 10) pe_int (nomark _)) (nomark _)))))
  (pss_one (ps_ret pe_bl))
  pss_nil)
  (pss_cons (ps_if (pt_cmpR op_ne (pe_call G_compare (hr.mono (by decide)) rfl T.g_compare T.k_compare T.b_compare .nil pass0 (pa_cons (pv 2) (pa_cons (pv 4) pa_nil))) (pe_call G__law_sign (hr.mono (by decide)) rfl T.g__law_sign T.k__law_sign T.b__law_sign .nil pass0 (pa_cons (pe_op op_sub (pv 2) (pv 4)) pa_nil)) (nomark _))
  (pss_one (ps_ret pe_bl))
  pss_nil)
  (pss_cons (ps_for PassesOwn.never rfl (pi_list (pe_lst (pa_cons pe_bl (pa_cons pe_bl (pa_cons pe_non (pa_cons (pe_callTy (call_strO T.m_Share___str__ T.i_Share___str__ G_Share___str__ (hr.mono (by decide)) T.b_Share___str__ pass0) (by rfl) T.z_str (by decide +kernel) (pa_cons (pv 8) pa_nil)) (pa_cons pe_str (pa_cons pe_str (pa_cons (pe_tup (pa_cons pe_int (pa_cons pe_int pa_nil))) (pa_cons (pe_lst (pa_cons pe_int pa_nil)) (pa_cons (pe_tup (pa_cons (pv 2) (pa_cons (pv 3) pa_nil))) pa_nil))))))))))) (pg_name (i := 13) sc_law.nd rfl (Or.inl rfl))
  (pss_one (ps_if (PW.pt (pw_or (pt_cmpR (op_eqS T.eqf.hs T.eqf.hf G_Share___eq__ (hr.mono (by decide)) T.b_Share___eq__ pass0 ty_looks) (pv 8) (pv 13) (nomark _)) (pw_or (pt_cmpR (op_eqR T.eqf G_Share___eq__ (hr.mono (by decide)) T.b_Share___eq__ pass0) (pv 13) (pv 8) (nomark _)) (pw_or (pt_cmpR (op_eqS T.eqf.hs T.eqf.hf G_Share___eq__ (hr.mono (by decide)) T.b_Share___eq__ pass0 ty_looks) (pe_make T.mk_Share G_Share___init__ (hr.mono (by decide)) rfl T.g_Share bd_Share_1 vd_Share_1 passL (pa_cons pe_int pa_nil)) (pv 13) (nomark _)) (pw_or (pt_cmpR (op_eqS T.eqf.hs T.eqf.hf G_Share___eq__ (hr.mono (by decide)) T.b_Share___eq__ pass0 ty_looks) (pe_make T.mk_Share G_Share___init__ (hr.mono (by decide)) rfl T.g_Share bd_Share_1 vd_Share_1 passL (pa_cons pe_int pa_nil)) (pv 13) (nomark _)) (pw_or (pt_cmpR (op_eqR T.eqf G_Share___eq__ (hr.mono (by decide)) T.b_Share___eq__ pass0) (pv 13) (pe_make T.mk_Share G_Share___init__ (hr.mono (by decide)) rfl T.g_Share bd_Share_1 vd_Share_1 passL (pa_cons pe_int pa_nil)) (nomark _)) (pw_or1 (pt_cmpR (op_eqR T.eqf G_Share___eq__ (hr.mono (by decide)) T.b_Share___eq__ pass0) (pv 13) (pe_make T.mk_Share G_Share___init__ (hr.mono (by decide)) rfl T.g_Share bd_Share_1 vd_Share_1 passL (pa_cons pe_int pa_nil)) (nomark _)))))))))
  (pss_one (ps_ret pe_bl))
  pss_nil)))
  (pss_one (ps_ret (pe_and (pe_cmpR op_eq (pe_callTy (call_strO T.m_Share___str__ T.i_Share___str__ G_Share___str__ (hr.mono (by decide)) T.b_Share___str__ pass0) (by rfl) T.z_str (by decide +kernel) (pa_cons (pv 8) pa_nil)) (pe_call G__law_text (hr.mono (by decide)) rfl T.g__law_text T.k__law_text T.b__law_text .nil pass0 (pa_cons (pv 8) pa_nil)) (nomark _)) (pe_and (pe_cmpR op_eq (pe_callTy (call_strO T.m_Share___str__ T.i_Share___str__ G_Share___str__ (hr.mono (by decide)) T.b_Share___str__ pass0) (by rfl) T.z_str (by decide +kernel) (pa_cons (pv 9) pa_nil)) (pe_call G__law_text (hr.mono (by decide)) rfl T.g__law_text T.k__law_text T.b__law_text .nil pass0 (pa_cons (pv 9) pa_nil)) (nomark _)) (pe_one (pe_cmpR op_eq (pe_callTy (call_strO T.m_Share___str__ T.i_Share___str__ G_Share___str__ (hr.mono (by decide)) T.b_Share___str__ pass0) (by rfl) T.z_str (by decide +kernel) (pa_cons (pe_make T.mk_Share G_Share___init__ (hr.mono (by decide)) rfl T.g_Share bd_Share_1 vd_Share_1 passL (pa_cons (pv 2) pa_nil)) pa_nil)) (pe_callTy call_str_int (by rfl) T.z_str (by decide +kernel) (pa_cons (pv 2) pa_nil)) (nomark _))))))))))))))))))))))))), ?_⟩
    wtm_at "rd"
    refine pool_ok hS fun p l H1 np nl hP1 s1 => ?_
    wtm_at "rd"
    refine num_ok 2 hP1 (by decide) (by decide) fun a' H2 ba hP2 b2 => ?_
    wtm_at "rd"
    refine num_ok 2 hP2 (by decide) (by decide) fun b' H3 bb hP3 b3 => ?_
    wtm_at "rd"
    refine num_ok 2 hP3 (by decide) (by decide) fun c' H4 bc hP4 b4 => ?_
    wtm_at "rd"
    refine num_ok 2 hP4 (by decide) (by decide) fun d' H5 bd hP5 b5 => ?_
    wtm_at "rd"
    refine draw_ok hP5 (by decide) (by decide) fun kd H6 kd0 kd1 hP6 b6 => ?_
    clear hP1 hP2 hP3 hP4 hP5 b2 b3 b4 b5 b6
    wtm_at "rd"
    have e14 : 10000000 ^ 2 = 100000000000000 := by decide
    rw [e14] at ba bb bc bd
    dsimp only
    generalize eb : (if b' < 0 then -b' else b') + 1 = b
    generalize ed : (if d' < 0 then -d' else d') + 1 = d
    have hb : 1 ≤ b ∧ b ≤ 100000000000000 := by split at eb <;> omega
    have hd : 1 ≤ d ∧ d ≤ 100000000000000 := by split at ed <;> omega
    clear eb ed bb bd
    have fT : ∀ {z : Int}, z.natAbs ≤ 100000000000000000 → z.natAbs < 2 ^ 60 := fun h => Nat.lt_of_le_of_lt h (by decide)
    have W : ∀ {z : Int}, z.natAbs < 2 ^ 60 → z.natAbs < 2 ^ 1900 := fun h => pow_lift h (by decide)
    have W4 : ∀ {z : Int}, z.natAbs < 2 ^ 60 → z.natAbs < 2 ^ 4000 := fun h => pow_lift h (by decide)
    refine ⟨fun σ' H' => ∃ (c d : Int) (v : Option V), σ' = [some (.ref a), some (.ref p), some (.int a'), some (.int b), some (.int c), some (.int d), some (.int kd), v, none, none, none, none, none, none] ∧ 1 ≤ d ∧ d ≤ 100000000000000000 ∧ c.natAbs ≤ 100000000000000000, ?_, ?_⟩
    · wtm_at "rd"
      refine ite2 (fun h => ?_) (fun h => ?_)
      · wtm_at "rd"
        refine draw_ok hP6 (by decide) (by decide) fun f H7 f0 f1 hP7 b7 => ?_
        wtm_at "rd"
        refine ⟨_, _, _, rfl, ?_, ?_, ?_⟩
        · have := Int.mul_pos (show 0 < b by omega) (show 0 < 1 + f by omega)
          omega
        · have := Int.mul_le_mul hb.2 (show 1 + f ≤ 1000 by omega) (by omega) (by decide)
          omega
        · rw [Int.natAbs_mul]
          have := Nat.mul_le_mul (show a'.natAbs ≤ 100000000000000 by omega) (show (1 + f).natAbs ≤ 1000 by omega)
          omega
      · exact ⟨_, _, none, rfl, hd.1, by omega, by omega⟩
    rintro σ' H7 ⟨c, d, v, rfl, d1, d2, hc⟩
    clear hP6 hd bc
    refine ⟨fun σ' H' => H' = H7 ∧ ∃ d : Int, σ' = [some (.ref a), some (.ref p), some (.int a'), some (.int b), some (.int c), some (.int d), some (.int kd), v, none, none, none, none, none, none] ∧ 1 ≤ d ∧ d ≤ 100000000000000000 ∧ (kd = 1 → d = 1), ?_, ?_⟩
    · wtm_at "rd"
      refine ite2 (fun h => ?_) (fun h => ?_)
      · wtm_at "rd"
        exact fun _ => rfl
      · exact ⟨rfl, d, rfl, d1, d2, fun z => absurd (decide_eq_true (congrArg V.int z)) h⟩
    rintro σ' H8 ⟨rfl, d, rfl, d1, d2, hk1⟩
    have fa : a'.natAbs < 2 ^ 60 := fT (by omega)
    have fb : b.natAbs < 2 ^ 60 := fT (by omega)
    have fc : c.natAbs < 2 ^ 60 := fT (by omega)
    have fd : d.natAbs < 2 ^ 60 := fT (by omega)
    have hb0 : b ≠ 0 := by omega
    have hd0 : d ≠ 0 := by omega
    wtm_at "rd"
    intro x1 dx1 nx1 ndx1 nex1
    refine share_ok a' b hb0 (W4 fa) (W4 fb) nx1 ndx1 fun H9 S1 s9 => ⟨rfl, ?_⟩
    wtm_at "rd"
    intro x2 dx2 nx2 ndx2 nex2
    refine share_ok c d hd0 (W4 fc) (W4 fd) nx2 ndx2 fun H10 S2 s10 => ⟨rfl, ?_⟩
    replace S1 := S1.same s10
    have c1 := sh_cross (t := a') hb0
    have c2 := sh_cross (t := c) hd0
    have q1 := shB_pos (t := a') hb0
    have q2 := shB_pos (t := c) hd0
    have g1 := Nat.lt_of_le_of_lt (shT_le (t := a') hb0) fa
    have g2 := Nat.lt_of_le_of_lt (shB_le (t := a') hb0) fb
    have g3 := Nat.lt_of_le_of_lt (shT_le (t := c) hd0) fc
    have g4 := Nat.lt_of_le_of_lt (shB_le (t := c) hd0) fd
    have k1 := sh_cop (t := a') hb0
    have k2 := sh_cop (t := c) hd0
    have eR : kd = 1 → shT c d = c ∧ shB c d = 1 := fun z => by rw [hk1 z]; exact ⟨shT_one c, shB_one c⟩
    generalize shT a' b = P at *
    generalize shB a' b = Q1 at *
    generalize shT c d = R at *
    generalize shB c d = S at *
    wtm_at "rd"
    refine sign_ok ?_
    have due1 : sgn (P * S - R * Q1) = sgn (a' * d - c * b) := sgn_cross (by omega) (by omega) (by omega) (by omega) c1 c2
    have due2 : -sgn (R * Q1 - P * S) = sgn (a' * d - c * b) := by rw [← sgn_neg, Int.neg_sub]; exact due1
    have due3 : kd = 1 → sgn (P * 1 - c * Q1) = sgn (a' * d - c * b) := fun z => by
      rw [hk1 z]
      exact sgn_cross (by omega) (by decide) (by omega) (by decide) c1 (by omega)
    have due4 : kd = 1 → -sgn (c * Q1 - P * 1) = sgn (a' * d - c * b) := fun z => by rw [← sgn_neg, Int.neg_sub]; exact due3 z
    have hz : (P = R ∧ Q1 = S) ↔ sgn (a' * d - c * b) = 0 := by
      rw [← due1, sgn_zero]
      constructor
      · rintro ⟨rfl, rfl⟩; omega
      · intro e; exact cop_unique q1 q2 k1 k2 (by omega)
    generalize sgn (a' * d - c * b) = due at *
    wtm_at "rd"
    refine cmp_ok S1.num S2.num (W g1) (W g2) (W g3) (W g4) fun H11 s11 => ?_
    replace S1 := S1.same s11
    replace S2 := S2.same s11
    wtm_at "rd"
    refine cmp_ok S2.num S1.num (W g3) (W g4) (W g1) (W g2) fun H12 s12 => ?_
    replace S1 := S1.same s12
    replace S2 := S2.same s12
    wtm_at "rd"
    refine ⟨(by show 2 ≤ sizeLine; decide), fun li hli => ?_⟩
    have s13 := same_new (o := .lst [.int (sgn (P * S - R * Q1)), .int (-sgn (R * Q1 - P * S))]) hli
    replace S1 := S1.same s13
    replace S2 := S2.same s13
    refine ⟨fun σ' H' => ∃ (li : Addr) (xs : List V), σ' = [some (.ref a), some (.ref p), some (.int a'), some (.int b), some (.int c), some (.int d), some (.int kd), v, some (.ref x1), some (.ref x2), some (.int due), some (.ref li), none, none] ∧ H' li = some (.lst xs) ∧ (∀ x ∈ xs, x = .int due) ∧ ShareAt N.C_Share H' x1 P Q1 ∧ ShareAt N.C_Share H' x2 R S, ?_, ?_⟩
    · have hli' : (upd H12 li (.lst [.int (sgn (P * S - R * Q1)), .int (-sgn (R * Q1 - P * S))])) li = some (.lst [.int (sgn (P * S - R * Q1)), .int (-sgn (R * Q1 - P * S))]) := upd_same
      have hx : ∀ x ∈ [V.int (sgn (P * S - R * Q1)), .int (-sgn (R * Q1 - P * S))], x = .int due := by
        intro x hx
        simp only [List.mem_cons, List.not_mem_nil, or_false] at hx
        rcases hx with rfl | rfl
        · rw [due1]
        · rw [due2]
      have hlen : [V.int (sgn (P * S - R * Q1)), .int (-sgn (R * Q1 - P * S))].length ≤ 2 := Nat.le_refl _
      generalize [V.int (sgn (P * S - R * Q1)), .int (-sgn (R * Q1 - P * S))] = xs at *
      wtm_at "rd"
      refine ite2 (fun h => ?_) (fun h => ?_)
      · have h : kd = 1 := V.int.inj (of_decide_eq_true h)
        wtm_at "rd"
        refine cmp_ok S1.num (.int _ _ c) (W g1) (W g2) (W fc) (by decide) fun H14 s14 => ?_
        have S1' := S1.same s14
        wtm_at "rd"
        refine cmp_ok (.int _ _ c) S1'.num (W fc) (by decide) (W g1) (W g2) fun H15 s15 => ?_
        have hli15 := s15 _ _ (s14 _ _ hli')
        wtm_at "rd"
        refine ⟨(by show 2 ≤ sizeLine; decide), fun l2 hl2 => ?_⟩
        have s16 := same_new (o := .lst [.int (sgn (P * 1 - c * Q1)), .int (-sgn (c * Q1 - P * 1))]) hl2
        refine ⟨_, _, _, _, rfl, rfl, s16 _ _ hli15, upd_same, ?_, fun l3 hl3 => ?_⟩
        · show xs.length + 2 ≤ sizeLine
          have := hlen
          exact Nat.le_trans (Nat.add_le_add_right this 2) (by decide)
        · have st := (s14.trans s15).trans (s16.trans (same_new (o := .lst (xs ++ [.int (sgn (P * 1 - c * Q1)), .int (-sgn (c * Q1 - P * 1))])) hl3))
          refine ⟨l3, _, rfl, upd_same, ?_, S1.same st, S2.same st⟩
          intro x hm
          rcases List.mem_append.mp hm with hm | hm
          · exact hx x hm
          · simp only [List.mem_cons, List.not_mem_nil, or_false] at hm
            rcases hm with rfl | rfl
            · rw [due3 h]
            · rw [due4 h]
      · exact ⟨li, xs, rfl, hli', hx, S1, S2⟩
    rintro σ' H14 ⟨li, xs, rfl, hli, hx, S1, S2⟩
    refine ⟨_, rfl, li, rfl, ⟨_, SqL.of hli⟩, for_list (K := K) (a := li) (xs := xs) (fun i σ H' => H' = H14 ∧ ∃ u : Option V, σ = [some (.ref a), some (.ref p), some (.int a'), some (.int b), some (.int c), some (.int d), some (.int kd), v, some (.ref x1), some (.ref x2), some (.int due), some (.ref li), u, none])
      ⟨rfl, none, rfl⟩ (fun i σ H' _ ⟨e, _⟩ => by rw [e]; exact SqL.of hli) ?_ ?_⟩
    · rintro i y σ H' hi ⟨rfl, u, rfl⟩
      obtain rfl := hx y (List.mem_of_getElem? hi)
      wtm_at "rd"
      refine whole_ok (.int _) ?_
      wtm_at "rd"
      refine iteNS rfl ?_
      exact ⟨rfl, _, rfl⟩
    rintro σ H' ⟨rfl, u, rfl⟩
    obtain ⟨dz1, hz1⟩ := id S1
    obtain ⟨dz2, hz2⟩ := id S2
    have bz : ∀ bb : Bool, (bb = true ↔ P = R ∧ Q1 = S) → V.bl bb = V.bl (decide (V.int due = V.int 0)) := fun bb hb => by
      congr 1
      cases bb with
      | true => rw [decide_eq_true]; rw [(hz.mp (hb.mp rfl))]
      | false =>
        rw [decide_eq_false]
        intro e
        have := hb.mpr (hz.mpr (V.int.inj e))
        cases this
    wtm_at "rd"
    refine ⟨_, _, _, _, rfl, hz1, T.ow_Share.ty hz2, T.nf_Share, eqN_ok S1 S2.num fun bb hbb => ?_⟩
    wtm_at "rd"
    refine iteNS (bz bb hbb) ?_
    wtm_at "rd"
    refine ⟨_, _, _, _, rfl, hz2, T.ow_Share.ty hz1, T.nf_Share, eqN_ok S2 S1.num fun bb hbb => ?_⟩
    wtm_at "rd"
    refine iteNS (bz bb (by rw [hbb]; constructor <;> (rintro ⟨h1, h2⟩; exact ⟨h1.symm, h2.symm⟩))) ?_
    wtm_at "rd"
    refine and_join ?_ (fun h nx => ?_)
    rotate_left
    · have h : kd = 1 := V.int.inj (of_decide_eq_true h)
      obtain ⟨e1, e2⟩ := eR h
      wtm_at "rd"
      refine ⟨_, _, _, _, rfl, hz1, .base (.int c), T.nf_int, eqN_ok S1 (.int _ _ c) fun bb hbb => ?_⟩
      wtm_at "rd"
      have e : (!decide (V.bl bb = V.bl (decide (V.int due = V.int 0)))) = false := by
        rw [decide_eq_true (bz bb (by rw [hbb, e1, e2]))]; rfl
      rw [e]
      exact nx
    wtm_at "rd"
    refine cmp_ok (.int _ _ a') (.int _ _ c) (W fa) (by decide) (W fc) (by decide) fun H15 s15 => ?_
    wtm_at "rd"
    refine sign_ok ?_
    wtm_at "rd"
    refine iteNS (by rw [Int.mul_one, Int.mul_one]) ?_
    replace S1 := S1.same s15
    replace S2 := S2.same s15
    clear hz1 hz2
    obtain ⟨dz1, hz1⟩ := id S1
    wtm_at "rd"
    refine ⟨_, _, _, rfl, hz1, str_ok S1 (W g1) (W g2) ⟨⟨_, rfl⟩, ?_⟩⟩
    wtm_at "rd"
    refine ⟨(by show 2 ≤ sizeLine; decide), fun t1 ht1 => ?_⟩
    wtm_at "rd"
    refine ⟨(by show 1 ≤ sizeLine; decide), fun l1 hl1 => ?_⟩
    wtm_at "rd"
    refine ⟨(by show 2 ≤ sizeLine; decide), fun t2 ht2 => ?_⟩
    wtm_at "rd"
    refine ⟨(by show 9 ≤ sizeLine; decide), fun lo hlo => ?_⟩
    generalize exs : [V.bl true, V.bl false, V.non, V.str (shText P Q1), V.str (Str.ofString "1"), V.str (Str.ofString ""), V.ref t1, V.ref l1, V.ref t2] = os
    generalize eH : upd (upd (upd (upd H15 t1 _) l1 _) t2 _) lo _ = H16
    have ht1' : H16 t1 = some (.tup [.int 1, .int 1]) := by rw [← eH]; exact (same_new hlo) _ _ ((same_new ht2) _ _ ((same_new hl1) _ _ upd_same))
    have hl1' : H16 l1 = some (.lst [.int 1]) := by rw [← eH]; exact (same_new hlo) _ _ ((same_new ht2) _ _ upd_same)
    have ht2' : H16 t2 = some (.tup [.int a', .int b]) := by rw [← eH]; exact (same_new hlo) _ _ upd_same
    have hlo' : H16 lo = some (.lst os) := by rw [← eH]; exact upd_same
    have s16 : Same H15 H16 := by rw [← eH]; exact ((same_new ht1).trans (same_new hl1)).trans ((same_new ht2).trans (same_new hlo))
    clear eH
    replace S1 := S1.same s16
    replace S2 := S2.same s16
    clear hz1
    have odd : ∀ x ∈ os, ∀ H', Same H16 H' → Odd K N.C_Share H' x := by
      intro x hm H' st
      rw [← exs] at hm
      simp only [List.mem_cons, List.not_mem_nil, or_false] at hm
      rcases hm with rfl | rfl | rfl | rfl | rfl | rfl | rfl | rfl | rfl
      · exact T.odf.bl _
      · exact T.odf.bl _
      · exact T.odf.non
      · exact T.odf.str _
      · exact T.odf.str _
      · exact T.odf.str _
      · exact T.odf.tup (st _ _ ht1')
      · exact T.odf.lst (st _ _ hl1')
      · exact T.odf.tup (st _ _ ht2')
    clear exs
    refine ⟨lo, rfl, ⟨_, SqL.of hlo'⟩, for_list (K := K) (a := lo) (xs := os) (fun i σ H' => Same H16 H' ∧ ∃ u' : Option V, σ = [some (.ref a), some (.ref p), some (.int a'), some (.int b), some (.int c), some (.int d), some (.int kd), v, some (.ref x1), some (.ref x2), some (.int due), some (.ref li), u, u'])
      ⟨Same.refl _, none, rfl⟩ (fun i σ H' _ ⟨e, _⟩ => SqL.of (e _ _ hlo')) ?_ ?_⟩
    · rintro i y σ H17 hi ⟨s17, u', rfl⟩
      have hy := odd y (List.mem_of_getElem? hi)
      have S1' := S1.same s17
      obtain ⟨dz1, hz1⟩ := id S1'
      have O := hy H17 s17
      obtain ⟨t, ht, hk, hn'⟩ := O.ty
      wtm_at "rd"
      refine ⟨_, _, _, _, rfl, hz1, ht, hn', eqO_ok S1' O.ni O.kd ht hk ?_⟩
      wtm_at "rd"
      refine ⟨_, _, _, rfl, hz1, O.ov, eqO_ok S1' O.ni O.kd ht hk ?_⟩
      wtm_at "rd"
      intro y1 dy1 ny1 ndy1 ney1
      refine share_ok 1 1 (by decide) (by decide) (by decide) ny1 ndy1 fun H18 Y1 s18 => ⟨rfl, ?_⟩
      obtain ⟨dw1, hw1⟩ := id Y1
      have O := hy H18 (s17.trans s18)
      clear ht
      obtain ⟨t, ht, hk, hn'⟩ := O.ty
      wtm_at "rd"
      refine ⟨_, _, _, _, rfl, hw1, ht, hn', eqO_ok Y1 O.ni O.kd ht hk ?_⟩
      wtm_at "rd"
      intro y2 dy2 ny2 ndy2 ney2
      refine share_ok 0 1 (by decide) (by decide) (by decide) ny2 ndy2 fun H19 Y2 s19 => ⟨rfl, ?_⟩
      obtain ⟨dw2, hw2⟩ := id Y2
      have O := hy H19 ((s17.trans s18).trans s19)
      clear ht
      obtain ⟨t, ht, hk, hn'⟩ := O.ty
      wtm_at "rd"
      refine ⟨_, _, _, _, rfl, hw2, ht, hn', eqO_ok Y2 O.ni O.kd ht hk ?_⟩
      wtm_at "rd"
      intro y3 dy3 ny3 ndy3 ney3
      refine share_ok 1 1 (by decide) (by decide) (by decide) ny3 ndy3 fun H20 Y3 s20 => ⟨rfl, ?_⟩
      obtain ⟨dw3, hw3⟩ := id Y3
      have O := hy H20 (((s17.trans s18).trans s19).trans s20)
      clear ht
      obtain ⟨t, ht, hk, hn'⟩ := O.ty
      wtm_at "rd"
      refine ⟨_, _, _, rfl, hw3, O.ov, eqO_ok Y3 O.ni O.kd ht hk ?_⟩
      wtm_at "rd"
      intro y4 dy4 ny4 ndy4 ney4
      refine share_ok 0 1 (by decide) (by decide) (by decide) ny4 ndy4 fun H21 Y4 s21 => ⟨rfl, ?_⟩
      obtain ⟨dw4, hw4⟩ := id Y4
      have O := hy H21 ((((s17.trans s18).trans s19).trans s20).trans s21)
      clear ht
      obtain ⟨t, ht, hk, hn'⟩ := O.ty
      wtm_at "rd"
      refine ⟨_, _, _, rfl, hw4, O.ov, eqO_ok Y4 O.ni O.kd ht hk ?_⟩
      wtm_at "rd"
      exact ⟨(((s17.trans s18).trans s19).trans s20).trans s21, _, rfl⟩
    rintro σ H17 ⟨s17, u', rfl⟩
    replace S1 := S1.same s17
    replace S2 := S2.same s17
    obtain ⟨dz1, hz1⟩ := id S1
    obtain ⟨dz2, hz2⟩ := id S2
    wtm_at "rd"
    refine ⟨_, _, _, rfl, hz1, str_ok S1 (W g1) (W g2) ⟨⟨_, rfl⟩, ?_⟩⟩
    wtm_at "rd"
    refine str_ok S1 (W g1) (W g2) ?_
    refine ⟨rfl, _, rfl, ?_⟩
    rw [if_pos (decide_eq_true rfl)]
    wtm_at "rd"
    refine ⟨_, _, _, rfl, hz2, str_ok S2 (W g3) (W g4) ⟨⟨_, rfl⟩, ?_⟩⟩
    wtm_at "rd"
    refine str_ok S2 (W g3) (W g4) ?_
    refine ⟨rfl, _, rfl, ?_⟩
    rw [if_pos (decide_eq_true rfl)]
    wtm_at "rd"
    intro y5 dy5 ny5 ndy5 ney5
    refine share_ok a' 1 (by decide) (W4 fa) (by decide) ny5 ndy5 fun H18 Y5 s18 => ⟨rfl, ?_⟩
    rw [shT_one, shB_one] at Y5
    obtain ⟨dw5, hw5⟩ := id Y5
    wtm_at "rd"
    refine ⟨_, _, _, rfl, hw5, str_ok Y5 (W fa) (by decide) ⟨⟨_, rfl⟩, ?_⟩⟩
    wtm_at "rd"
    refine ⟨log_of fa (by decide) (by decide), ?_⟩
    refine ⟨rfl, ?_⟩
    have e : shText a' 1 = Str.ofString (toString a') := by unfold shText; rw [if_pos rfl]; rfl
    rw [e, decide_eq_true rfl]
    exact k _
end
end My
namespace My
open PySem L2
theorem all_mk {l : PySem.W.OpenLaw} {w : World} {K : PySem.W.Frag} {h : Heap} {mg : Str → Option Value} {fa : Addr} (X : K.In h) (G : h.Ns mainGlobals mg) (hfa : mg "law" = some (.ref fa))
    {a_is_whole : Addr}
    {oc_is_whole kV_is_whole dc_is_whole pm_is_whole cd_is_whole ct_is_whole : Value} {od_is_whole an_is_whole : Option Addr} {sl_is_whole : Array (Option Value)}
    {a_Share___init__ : Addr}
    {td_Share___init__ : Addr} {to_Share___init__ : Value} {tq_Share___init__ : Option Addr} {tn_Share___init__ : Nat} {tl_Share___init__ : Array (Option Value)}
    {oc_Share___init__ kV_Share___init__ dc_Share___init__ pm_Share___init__ cd_Share___init__ ct_Share___init__ : Value} {od_Share___init__ an_Share___init__ : Option Addr} {sl_Share___init__ : Array (Option Value)}
    {tk_Share___init___0 : Tok}
    {a_Share___eq__ : Addr}
    {oc_Share___eq__ kV_Share___eq__ dc_Share___eq__ pm_Share___eq__ cd_Share___eq__ ct_Share___eq__ : Value} {od_Share___eq__ an_Share___eq__ : Option Addr} {sl_Share___eq__ : Array (Option Value)}
    {a_Share___str__ : Addr}
    {oc_Share___str__ kV_Share___str__ dc_Share___str__ pm_Share___str__ cd_Share___str__ ct_Share___str__ : Value} {od_Share___str__ an_Share___str__ : Option Addr} {sl_Share___str__ : Array (Option Value)}
    {a_as_share : Addr}
    {oc_as_share kV_as_share dc_as_share pm_as_share cd_as_share ct_as_share : Value} {od_as_share an_as_share : Option Addr} {sl_as_share : Array (Option Value)}
    {a_compare : Addr}
    {oc_compare kV_compare dc_compare pm_compare cd_compare ct_compare : Value} {od_compare an_compare : Option Addr} {sl_compare : Array (Option Value)}
    {a__law_pool : Addr}
    {oc__law_pool kV__law_pool dc__law_pool pm__law_pool cd__law_pool ct__law_pool : Value} {od__law_pool an__law_pool : Option Addr} {sl__law_pool : Array (Option Value)}
    {a__law_draw : Addr}
    {oc__law_draw kV__law_draw dc__law_draw pm__law_draw cd__law_draw ct__law_draw : Value} {od__law_draw an__law_draw : Option Addr} {sl__law_draw : Array (Option Value)}
    {a__law_number : Addr}
    {oc__law_number kV__law_number dc__law_number pm__law_number cd__law_number ct__law_number : Value} {od__law_number an__law_number : Option Addr} {sl__law_number : Array (Option Value)}
    {a__law_is_integer : Addr}
    {oc__law_is_integer kV__law_is_integer dc__law_is_integer pm__law_is_integer cd__law_is_integer ct__law_is_integer : Value} {od__law_is_integer an__law_is_integer : Option Addr} {sl__law_is_integer : Array (Option Value)}
    {a__law_sign : Addr}
    {oc__law_sign kV__law_sign dc__law_sign pm__law_sign cd__law_sign ct__law_sign : Value} {od__law_sign an__law_sign : Option Addr} {sl__law_sign : Array (Option Value)}
    {a__law_text : Addr}
    {oc__law_text kV__law_text dc__law_text pm__law_text cd__law_text ct__law_text : Value} {od__law_text an__law_text : Option Addr} {sl__law_text : Array (Option Value)}
    {a_law : Addr}
    {oc_law kV_law dc_law pm_law cd_law ct_law : Value} {od_law an_law : Option Addr} {sl_law : Array (Option Value)}
    {C_SeatError : Addr}
    {C_BadShare : Addr}
    {C_Share : Addr}
    (g_SeatError : PySem.W.nsIn K mainGlobals "SeatError" = some (some (.ref C_SeatError)))
    (g_BadShare : PySem.W.nsIn K mainGlobals "BadShare" = some (some (.ref C_BadShare)))
    (g_Share : PySem.W.nsIn K mainGlobals "Share" = some (some (.ref C_Share)))
    (z_isinstance : PySem.W.nsIn K mainGlobals "isinstance" = some none)
    (z_bool : PySem.W.nsIn K mainGlobals "bool" = some none)
    (z_int : PySem.W.nsIn K mainGlobals "int" = some none)
    (z_str : PySem.W.nsIn K mainGlobals "str" = some none)
    (z_list : PySem.W.nsIn K mainGlobals "list" = some none)
    (z_len : PySem.W.nsIn K mainGlobals "len" = some none)
    (z_range : PySem.W.nsIn K mainGlobals "range" = some none)
    (z_abs : PySem.W.nsIn K mainGlobals "abs" = some none)
    (g_is_whole : PySem.W.nsIn K mainGlobals "is_whole" = some (some (.ref a_is_whole)))
    (l_is_whole : K.lookup a_is_whole = some ⟨oc_is_whole, od_is_whole, .func (PySem.W.fnOf "is_whole" "is_whole" (defArgs s_is_whole) (defBody s_is_whole) (defScope s_is_whole) .none kV_is_whole dc_is_whole pm_is_whole an_is_whole cd_is_whole ct_is_whole), sl_is_whole⟩)
    (c_is_whole : PySem.W.codeIn K cd_is_whole "is_whole" = true)
    (k_is_whole : PySem.W.keepIn K (.ref a_is_whole) = true)
    (m_Share___init__ : PySem.W.findIn K (.ref C_Share) "__init__" = some (some (.ref a_Share___init__)))
    (i_Share___init__ : PySem.W.isFn K (.ref a_Share___init__) = true)
    (l_Share___init__ : K.lookup a_Share___init__ = some ⟨oc_Share___init__, od_Share___init__, .func (PySem.W.fnOf "__init__" "Share.__init__" (defArgs s_Share___init__) (defBody s_Share___init__) (defScope s_Share___init__) (.ref td_Share___init__) kV_Share___init__ dc_Share___init__ pm_Share___init__ an_Share___init__ cd_Share___init__ ct_Share___init__), sl_Share___init__⟩)
    (c_Share___init__ : PySem.W.codeIn K cd_Share___init__ "Share.__init__" = true)
    (k_Share___init__ : PySem.W.keepIn K (.ref a_Share___init__) = true)
    (t_Share___init__ : K.lookup td_Share___init__ = some ⟨to_Share___init__, tq_Share___init__, .seq (#[.int 1 tk_Share___init___0]) tn_Share___init__, tl_Share___init__⟩)
    (m_Share___eq__ : PySem.W.findIn K (.ref C_Share) "__eq__" = some (some (.ref a_Share___eq__)))
    (i_Share___eq__ : PySem.W.isFn K (.ref a_Share___eq__) = true)
    (l_Share___eq__ : K.lookup a_Share___eq__ = some ⟨oc_Share___eq__, od_Share___eq__, .func (PySem.W.fnOf "__eq__" "Share.__eq__" (defArgs s_Share___eq__) (defBody s_Share___eq__) (defScope s_Share___eq__) .none kV_Share___eq__ dc_Share___eq__ pm_Share___eq__ an_Share___eq__ cd_Share___eq__ ct_Share___eq__), sl_Share___eq__⟩)
    (c_Share___eq__ : PySem.W.codeIn K cd_Share___eq__ "Share.__eq__" = true)
    (k_Share___eq__ : PySem.W.keepIn K (.ref a_Share___eq__) = true)
    (m_Share___str__ : PySem.W.findIn K (.ref C_Share) "__str__" = some (some (.ref a_Share___str__)))
    (i_Share___str__ : PySem.W.isFn K (.ref a_Share___str__) = true)
    (l_Share___str__ : K.lookup a_Share___str__ = some ⟨oc_Share___str__, od_Share___str__, .func (PySem.W.fnOf "__str__" "Share.__str__" (defArgs s_Share___str__) (defBody s_Share___str__) (defScope s_Share___str__) .none kV_Share___str__ dc_Share___str__ pm_Share___str__ an_Share___str__ cd_Share___str__ ct_Share___str__), sl_Share___str__⟩)
    (c_Share___str__ : PySem.W.codeIn K cd_Share___str__ "Share.__str__" = true)
    (k_Share___str__ : PySem.W.keepIn K (.ref a_Share___str__) = true)
    (g_as_share : PySem.W.nsIn K mainGlobals "as_share" = some (some (.ref a_as_share)))
    (l_as_share : K.lookup a_as_share = some ⟨oc_as_share, od_as_share, .func (PySem.W.fnOf "as_share" "as_share" (defArgs s_as_share) (defBody s_as_share) (defScope s_as_share) .none kV_as_share dc_as_share pm_as_share an_as_share cd_as_share ct_as_share), sl_as_share⟩)
    (c_as_share : PySem.W.codeIn K cd_as_share "as_share" = true)
    (k_as_share : PySem.W.keepIn K (.ref a_as_share) = true)
    (g_compare : PySem.W.nsIn K mainGlobals "compare" = some (some (.ref a_compare)))
    (l_compare : K.lookup a_compare = some ⟨oc_compare, od_compare, .func (PySem.W.fnOf "compare" "compare" (defArgs s_compare) (defBody s_compare) (defScope s_compare) .none kV_compare dc_compare pm_compare an_compare cd_compare ct_compare), sl_compare⟩)
    (c_compare : PySem.W.codeIn K cd_compare "compare" = true)
    (k_compare : PySem.W.keepIn K (.ref a_compare) = true)
    (g__law_pool : PySem.W.nsIn K mainGlobals "_law_pool" = some (some (.ref a__law_pool)))
    (l__law_pool : K.lookup a__law_pool = some ⟨oc__law_pool, od__law_pool, .func (PySem.W.fnOf "_law_pool" "_law_pool" (defArgs s__law_pool) (defBody s__law_pool) (defScope s__law_pool) .none kV__law_pool dc__law_pool pm__law_pool an__law_pool cd__law_pool ct__law_pool), sl__law_pool⟩)
    (c__law_pool : PySem.W.codeIn K cd__law_pool "_law_pool" = true)
    (k__law_pool : PySem.W.keepIn K (.ref a__law_pool) = true)
    (g__law_draw : PySem.W.nsIn K mainGlobals "_law_draw" = some (some (.ref a__law_draw)))
    (l__law_draw : K.lookup a__law_draw = some ⟨oc__law_draw, od__law_draw, .func (PySem.W.fnOf "_law_draw" "_law_draw" (defArgs s__law_draw) (defBody s__law_draw) (defScope s__law_draw) .none kV__law_draw dc__law_draw pm__law_draw an__law_draw cd__law_draw ct__law_draw), sl__law_draw⟩)
    (c__law_draw : PySem.W.codeIn K cd__law_draw "_law_draw" = true)
    (k__law_draw : PySem.W.keepIn K (.ref a__law_draw) = true)
    (g__law_number : PySem.W.nsIn K mainGlobals "_law_number" = some (some (.ref a__law_number)))
    (l__law_number : K.lookup a__law_number = some ⟨oc__law_number, od__law_number, .func (PySem.W.fnOf "_law_number" "_law_number" (defArgs s__law_number) (defBody s__law_number) (defScope s__law_number) .none kV__law_number dc__law_number pm__law_number an__law_number cd__law_number ct__law_number), sl__law_number⟩)
    (c__law_number : PySem.W.codeIn K cd__law_number "_law_number" = true)
    (k__law_number : PySem.W.keepIn K (.ref a__law_number) = true)
    (g__law_is_integer : PySem.W.nsIn K mainGlobals "_law_is_integer" = some (some (.ref a__law_is_integer)))
    (l__law_is_integer : K.lookup a__law_is_integer = some ⟨oc__law_is_integer, od__law_is_integer, .func (PySem.W.fnOf "_law_is_integer" "_law_is_integer" (defArgs s__law_is_integer) (defBody s__law_is_integer) (defScope s__law_is_integer) .none kV__law_is_integer dc__law_is_integer pm__law_is_integer an__law_is_integer cd__law_is_integer ct__law_is_integer), sl__law_is_integer⟩)
    (c__law_is_integer : PySem.W.codeIn K cd__law_is_integer "_law_is_integer" = true)
    (k__law_is_integer : PySem.W.keepIn K (.ref a__law_is_integer) = true)
    (g__law_sign : PySem.W.nsIn K mainGlobals "_law_sign" = some (some (.ref a__law_sign)))
    (l__law_sign : K.lookup a__law_sign = some ⟨oc__law_sign, od__law_sign, .func (PySem.W.fnOf "_law_sign" "_law_sign" (defArgs s__law_sign) (defBody s__law_sign) (defScope s__law_sign) .none kV__law_sign dc__law_sign pm__law_sign an__law_sign cd__law_sign ct__law_sign), sl__law_sign⟩)
    (c__law_sign : PySem.W.codeIn K cd__law_sign "_law_sign" = true)
    (k__law_sign : PySem.W.keepIn K (.ref a__law_sign) = true)
    (g__law_text : PySem.W.nsIn K mainGlobals "_law_text" = some (some (.ref a__law_text)))
    (l__law_text : K.lookup a__law_text = some ⟨oc__law_text, od__law_text, .func (PySem.W.fnOf "_law_text" "_law_text" (defArgs s__law_text) (defBody s__law_text) (defScope s__law_text) .none kV__law_text dc__law_text pm__law_text an__law_text cd__law_text ct__law_text), sl__law_text⟩)
    (c__law_text : PySem.W.codeIn K cd__law_text "_law_text" = true)
    (k__law_text : PySem.W.keepIn K (.ref a__law_text) = true)
    (g_law : PySem.W.nsIn K mainGlobals "law" = some (some (.ref a_law)))
    (l_law : K.lookup a_law = some ⟨oc_law, od_law, .func (PySem.W.fnOf "law" "law" (defArgs s_law) (defBody s_law) (defScope s_law) .none kV_law dc_law pm_law an_law cd_law ct_law), sl_law⟩)
    (c_law : PySem.W.codeIn K cd_law "law" = true)
    (k_law : PySem.W.keepIn K (.ref a_law) = true)
    (kp_SeatError : PySem.W.keepIn K (.ref C_SeatError) = true)
    (x_SeatError : PySem.W.excIn K C_SeatError [.type "ValueError", .type "Exception", .type "BaseException", .type "object"] "ValueError.__new__" = true)
    (sb_SeatError : PySem.W.subIn K (.ref C_SeatError) (.type "BaseException") = some true)
    (ty_SeatError : PySem.W.typeIn K (.ref C_SeatError) = some (.type "type"))
    (te_SeatError : PySem.W.exmOne K (.ref C_SeatError) (.ref C_SeatError) = some true)
    (e1_SeatError : PySem.W.findIn K (.ref C_SeatError) "__getattribute__" = some (some (.builtin "BaseException.__getattribute__")))
    (e2_SeatError : PySem.W.findIn K (.ref C_SeatError) "__getattr__" = some none)
    (e3_SeatError : PySem.W.hasDictIn K C_SeatError = true)
    (e4_SeatError : PySem.W.findIn K (.ref C_SeatError) "__class__" = some (some (.builtin "object.__class__")))
    (e5_SeatError : PySem.W.mroIn K C_SeatError (.type "object") = some true)
    (kp_BadShare : PySem.W.keepIn K (.ref C_BadShare) = true)
    (x_BadShare : PySem.W.excIn K C_BadShare [.type "ValueError", .type "Exception", .type "BaseException", .type "object"] "ValueError.__new__" = true)
    (sb_BadShare : PySem.W.subIn K (.ref C_BadShare) (.type "BaseException") = some true)
    (ty_BadShare : PySem.W.typeIn K (.ref C_BadShare) = some (.type "type"))
    (te_BadShare : PySem.W.exmOne K (.ref C_BadShare) (.ref C_BadShare) = some true)
    (e1_BadShare : PySem.W.findIn K (.ref C_BadShare) "__getattribute__" = some (some (.builtin "BaseException.__getattribute__")))
    (e2_BadShare : PySem.W.findIn K (.ref C_BadShare) "__getattr__" = some none)
    (e3_BadShare : PySem.W.hasDictIn K C_BadShare = true)
    (e4_BadShare : PySem.W.findIn K (.ref C_BadShare) "__class__" = some (some (.builtin "object.__class__")))
    (e5_BadShare : PySem.W.mroIn K C_BadShare (.type "object") = some true)
    (kp_Share : PySem.W.keepIn K (.ref C_Share) = true)
    (o1_Share : PySem.W.plainGet K C_Share Str.empty = true)
    (o2_Share : PySem.W.hasDictIn K C_Share = true)
    (o3_Share : PySem.W.plainOver K C_Share = true)
    (o4_Share : PySem.W.findIn K (.ref C_Share) "__setattr__" = some (some (.builtin "object.__setattr__")))
    (o5_Share : PySem.W.findIn K (.ref C_Share) "__class__" = some (some (.builtin "object.__class__")))
    (o6_Share : PySem.W.mroIn K C_Share (.type "object") = some true)
    (o7_Share : PySem.W.makesIn K C_Share = true)
    (na_Share_top : PySem.W.findIn K (.ref C_Share) "top" = some none)
    (na_Share_bottom : PySem.W.findIn K (.ref C_Share) "bottom" = some none)
    (hn : PySem.W.specialIn K (.builtin "object.__class__") "__get__" = some (some (.builtin "getset_descriptor.__get__")))
    (htk : PySem.W.takesIn K (.builtin "object.__class__") = some true)
    (kit_Share_int : PySem.W.kitOne K (.ref C_Share) (.type "int") = some false)
    (kit_Share_bool : PySem.W.kitOne K (.ref C_Share) (.type "bool") = some false)
    (kit_int_Share : PySem.W.kitOne K (.type "int") (.ref C_Share) = some false)
    (c_gcd : PySem.W.nsIn K mainGlobals "gcd" = some (some (.builtin "math.gcd")))
    (nf_Share : PySem.W.notFirst K C_Share (.ref C_Share) = true)
    (nf_int : PySem.W.notFirst K C_Share (.type "int") = true)
    (sn_bool : PySem.W.subIn K (.ref C_Share) (.type "bool") = some false)
    (kn_bool : PySem.W.kitOne K (.type "bool") (.ref C_Share) = some false)
    (nn_bool : PySem.W.notFirst K C_Share (.type "bool") = true)
    (sn_NoneType : PySem.W.subIn K (.ref C_Share) (.type "NoneType") = some false)
    (kn_NoneType : PySem.W.kitOne K (.type "NoneType") (.ref C_Share) = some false)
    (nn_NoneType : PySem.W.notFirst K C_Share (.type "NoneType") = true)
    (sn_str : PySem.W.subIn K (.ref C_Share) (.type "str") = some false)
    (kn_str : PySem.W.kitOne K (.type "str") (.ref C_Share) = some false)
    (nn_str : PySem.W.notFirst K C_Share (.type "str") = true)
    (sn_tuple : PySem.W.subIn K (.ref C_Share) (.type "tuple") = some false)
    (kn_tuple : PySem.W.kitOne K (.type "tuple") (.ref C_Share) = some false)
    (nn_tuple : PySem.W.notFirst K C_Share (.type "tuple") = true)
    (sn_list : PySem.W.subIn K (.ref C_Share) (.type "list") = some false)
    (kn_list : PySem.W.kitOne K (.type "list") (.ref C_Share) = some false)
    (nn_list : PySem.W.notFirst K C_Share (.type "list") = true)
    : ∃ fd : FuncData, (∀ (s : Shared) (v : Value), BindsTo s fd ⟨[v], []⟩ [("_law_script", v)]) ∧ ∀ base : Heap, K.In base → base.Ns mainGlobals mg → FnOk l.prog w K mg base CX0 9 fa fd ["_law_script"] (spLaw K) := by
  have e := hfa.symm.trans (PySem.W.mg_of X G g_law)
  cases e
  have F_is_whole := fun_mk (st := s_is_whole) l_is_whole c_is_whole k_is_whole
  have b_is_whole := F_is_whole.binds (ps := ["value"]) fun _ _ _ _ _ _ us hl => match us, hl with | [_], _ => rfl
  have F_Share___init__ : FunD K "__init__" "Share.__init__" (defArgs s_Share___init__) (defBody s_Share___init__) (defScope s_Share___init__) [.int 1] [] a_Share___init__ (PySem.W.fnOf "__init__" "Share.__init__" (defArgs s_Share___init__) (defBody s_Share___init__) (defScope s_Share___init__) (.ref td_Share___init__) kV_Share___init__ dc_Share___init__ pm_Share___init__ an_Share___init__ cd_Share___init__ ct_Share___init__) := ⟨⟨_, _, _, _, _, _, _, _, _, _, rfl, l_Share___init__, c_Share___init__, .inr ⟨List.cons_ne_nil _ _, td_Share___init__, _, [.int 1 tk_Share___init___0], tn_Share___init__, rfl, t_Share___init__, rfl, (.cons ⟨_, rfl⟩ .nil)⟩, .inl rfl⟩, k_Share___init__⟩
  have bx_Share___init___0 := F_Share___init__.binds1 (ps := ["self", "top", "bottom"]) 3 1 (List.cons_ne_nil _ _) rfl fun T kV doc pm an cdv ct us its h1 h2 => match us, its, h1, h2 with | [_, _, _], [_], _, _ => ⟨_, rfl, rfl⟩
  have bx_Share___init___1 := F_Share___init__.binds1 (ps := ["self", "top", "bottom"]) 2 0 (List.cons_ne_nil _ _) rfl fun T kV doc pm an cdv ct us its h1 h2 => match us, its, h1, h2 with | [_, _], [_], _, _ => ⟨_, rfl, rfl⟩
  have F_Share___eq__ := fun_mk (st := s_Share___eq__) l_Share___eq__ c_Share___eq__ k_Share___eq__
  have b_Share___eq__ := F_Share___eq__.binds (ps := ["self", "other"]) fun _ _ _ _ _ _ us hl => match us, hl with | [_, _], _ => rfl
  have F_Share___str__ := fun_mk (st := s_Share___str__) l_Share___str__ c_Share___str__ k_Share___str__
  have b_Share___str__ := F_Share___str__.binds (ps := ["self"]) fun _ _ _ _ _ _ us hl => match us, hl with | [_], _ => rfl
  have F_as_share := fun_mk (st := s_as_share) l_as_share c_as_share k_as_share
  have b_as_share := F_as_share.binds (ps := ["value"]) fun _ _ _ _ _ _ us hl => match us, hl with | [_], _ => rfl
  have F_compare := fun_mk (st := s_compare) l_compare c_compare k_compare
  have b_compare := F_compare.binds (ps := ["one", "other"]) fun _ _ _ _ _ _ us hl => match us, hl with | [_, _], _ => rfl
  have F__law_pool := fun_mk (st := s__law_pool) l__law_pool c__law_pool k__law_pool
  have b__law_pool := F__law_pool.binds (ps := ["_law_script"]) fun _ _ _ _ _ _ us hl => match us, hl with | [_], _ => rfl
  have F__law_draw := fun_mk (st := s__law_draw) l__law_draw c__law_draw k__law_draw
  have b__law_draw := F__law_draw.binds (ps := ["_law_pool_here", "_law_many"]) fun _ _ _ _ _ _ us hl => match us, hl with | [_, _], _ => rfl
  have F__law_number := fun_mk (st := s__law_number) l__law_number c__law_number k__law_number
  have b__law_number := F__law_number.binds (ps := ["_law_pool_here", "_law_parts"]) fun _ _ _ _ _ _ us hl => match us, hl with | [_, _], _ => rfl
  have F__law_is_integer := fun_mk (st := s__law_is_integer) l__law_is_integer c__law_is_integer k__law_is_integer
  have b__law_is_integer := F__law_is_integer.binds (ps := ["_law_value"]) fun _ _ _ _ _ _ us hl => match us, hl with | [_], _ => rfl
  have F__law_sign := fun_mk (st := s__law_sign) l__law_sign c__law_sign k__law_sign
  have b__law_sign := F__law_sign.binds (ps := ["_law_number_here"]) fun _ _ _ _ _ _ us hl => match us, hl with | [_], _ => rfl
  have F__law_text := fun_mk (st := s__law_text) l__law_text c__law_text k__law_text
  have b__law_text := F__law_text.binds (ps := ["_law_share"]) fun _ _ _ _ _ _ us hl => match us, hl with | [_], _ => rfl
  have F_law := fun_mk (st := s_law) l_law c_law k_law
  have b_law := F_law.binds (ps := ["_law_script"]) fun _ _ _ _ _ _ us hl => match us, hl with | [_], _ => rfl
  let N : Nms := { a_is_whole := a_is_whole, d_is_whole := PySem.W.fnOf "is_whole" "is_whole" (defArgs s_is_whole) (defBody s_is_whole) (defScope s_is_whole) .none kV_is_whole dc_is_whole pm_is_whole an_is_whole cd_is_whole ct_is_whole, a_Share___init__ := a_Share___init__, d_Share___init__ := PySem.W.fnOf "__init__" "Share.__init__" (defArgs s_Share___init__) (defBody s_Share___init__) (defScope s_Share___init__) (.ref td_Share___init__) kV_Share___init__ dc_Share___init__ pm_Share___init__ an_Share___init__ cd_Share___init__ ct_Share___init__, a_Share___eq__ := a_Share___eq__, d_Share___eq__ := PySem.W.fnOf "__eq__" "Share.__eq__" (defArgs s_Share___eq__) (defBody s_Share___eq__) (defScope s_Share___eq__) .none kV_Share___eq__ dc_Share___eq__ pm_Share___eq__ an_Share___eq__ cd_Share___eq__ ct_Share___eq__, a_Share___str__ := a_Share___str__, d_Share___str__ := PySem.W.fnOf "__str__" "Share.__str__" (defArgs s_Share___str__) (defBody s_Share___str__) (defScope s_Share___str__) .none kV_Share___str__ dc_Share___str__ pm_Share___str__ an_Share___str__ cd_Share___str__ ct_Share___str__, a_as_share := a_as_share, d_as_share := PySem.W.fnOf "as_share" "as_share" (defArgs s_as_share) (defBody s_as_share) (defScope s_as_share) .none kV_as_share dc_as_share pm_as_share an_as_share cd_as_share ct_as_share, a_compare := a_compare, d_compare := PySem.W.fnOf "compare" "compare" (defArgs s_compare) (defBody s_compare) (defScope s_compare) .none kV_compare dc_compare pm_compare an_compare cd_compare ct_compare, a__law_pool := a__law_pool, d__law_pool := PySem.W.fnOf "_law_pool" "_law_pool" (defArgs s__law_pool) (defBody s__law_pool) (defScope s__law_pool) .none kV__law_pool dc__law_pool pm__law_pool an__law_pool cd__law_pool ct__law_pool, a__law_draw := a__law_draw, d__law_draw := PySem.W.fnOf "_law_draw" "_law_draw" (defArgs s__law_draw) (defBody s__law_draw) (defScope s__law_draw) .none kV__law_draw dc__law_draw pm__law_draw an__law_draw cd__law_draw ct__law_draw, a__law_number := a__law_number, d__law_number := PySem.W.fnOf "_law_number" "_law_number" (defArgs s__law_number) (defBody s__law_number) (defScope s__law_number) .none kV__law_number dc__law_number pm__law_number an__law_number cd__law_number ct__law_number, a__law_is_integer := a__law_is_integer, d__law_is_integer := PySem.W.fnOf "_law_is_integer" "_law_is_integer" (defArgs s__law_is_integer) (defBody s__law_is_integer) (defScope s__law_is_integer) .none kV__law_is_integer dc__law_is_integer pm__law_is_integer an__law_is_integer cd__law_is_integer ct__law_is_integer, a__law_sign := a__law_sign, d__law_sign := PySem.W.fnOf "_law_sign" "_law_sign" (defArgs s__law_sign) (defBody s__law_sign) (defScope s__law_sign) .none kV__law_sign dc__law_sign pm__law_sign an__law_sign cd__law_sign ct__law_sign, a__law_text := a__law_text, d__law_text := PySem.W.fnOf "_law_text" "_law_text" (defArgs s__law_text) (defBody s__law_text) (defScope s__law_text) .none kV__law_text dc__law_text pm__law_text an__law_text cd__law_text ct__law_text, a_law := fa, d_law := PySem.W.fnOf "law" "law" (defArgs s_law) (defBody s_law) (defScope s_law) .none kV_law dc_law pm_law an_law cd_law ct_law, C_SeatError := C_SeatError, C_BadShare := C_BadShare, C_Share := C_Share }
  have T : Txt K mg N := { z_isinstance := PySem.W.mg_none_of X G z_isinstance, z_bool := PySem.W.mg_none_of X G z_bool, z_int := PySem.W.mg_none_of X G z_int, z_str := PySem.W.mg_none_of X G z_str, z_list := PySem.W.mg_none_of X G z_list, z_len := PySem.W.mg_none_of X G z_len, z_range := PySem.W.mg_none_of X G z_range, z_abs := PySem.W.mg_none_of X G z_abs, F_is_whole := F_is_whole, g_is_whole := PySem.W.mg_of X G g_is_whole, k_is_whole := k_is_whole, b_is_whole := b_is_whole, F_Share___init__ := F_Share___init__, F_Share___eq__ := F_Share___eq__, b_Share___eq__ := b_Share___eq__, F_Share___str__ := F_Share___str__, b_Share___str__ := b_Share___str__, F_as_share := F_as_share, g_as_share := PySem.W.mg_of X G g_as_share, k_as_share := k_as_share, b_as_share := b_as_share, F_compare := F_compare, g_compare := PySem.W.mg_of X G g_compare, k_compare := k_compare, b_compare := b_compare, F__law_pool := F__law_pool, g__law_pool := PySem.W.mg_of X G g__law_pool, k__law_pool := k__law_pool, b__law_pool := b__law_pool, F__law_draw := F__law_draw, g__law_draw := PySem.W.mg_of X G g__law_draw, k__law_draw := k__law_draw, b__law_draw := b__law_draw, F__law_number := F__law_number, g__law_number := PySem.W.mg_of X G g__law_number, k__law_number := k__law_number, b__law_number := b__law_number, F__law_is_integer := F__law_is_integer, g__law_is_integer := PySem.W.mg_of X G g__law_is_integer, k__law_is_integer := k__law_is_integer, b__law_is_integer := b__law_is_integer, F__law_sign := F__law_sign, g__law_sign := PySem.W.mg_of X G g__law_sign, k__law_sign := k__law_sign, b__law_sign := b__law_sign, F__law_text := F__law_text, g__law_text := PySem.W.mg_of X G g__law_text, k__law_text := k__law_text, b__law_text := b__law_text, F_law := F_law, g_law := PySem.W.mg_of X G g_law, k_law := k_law, b_law := b_law, g_SeatError := PySem.W.mg_of X G g_SeatError, x_SeatError := x_SeatError, kp_SeatError := kp_SeatError, sb_SeatError := sb_SeatError, ty_SeatError := ty_SeatError, te_SeatError := te_SeatError, ec_SeatError := ⟨e1_SeatError, e2_SeatError, sb_SeatError, e3_SeatError, e4_SeatError, hn, htk, e5_SeatError⟩, g_BadShare := PySem.W.mg_of X G g_BadShare, x_BadShare := x_BadShare, kp_BadShare := kp_BadShare, sb_BadShare := sb_BadShare, ty_BadShare := ty_BadShare, te_BadShare := te_BadShare, ec_BadShare := ⟨e1_BadShare, e2_BadShare, sb_BadShare, e3_BadShare, e4_BadShare, hn, htk, e5_BadShare⟩, g_Share := PySem.W.mg_of X G g_Share, ow_Share := ⟨⟨o1_Share, o2_Share, o3_Share, o4_Share⟩, o5_Share, hn, htk, o6_Share⟩, mk_Share := ⟨o7_Share, m_Share___init__, i_Share___init__, kp_Share⟩, na_Share_top := na_Share_top, na_Share_bottom := na_Share_bottom, kit_Share_int := kit_Share_int, kit_Share_bool := kit_Share_bool, kit_int_Share := kit_int_Share, b_Share___init__ := (by obtain ⟨ds, v, b⟩ := bx_Share___init___0; cases v; exact b), bd_Share___init___1 := bx_Share___init___1, c_gcd := PySem.W.mg_of X G c_gcd, m_Share___str__ := m_Share___str__, i_Share___str__ := i_Share___str__, nf_Share := nf_Share, nf_int := nf_int, eqf := ⟨m_Share___eq__, i_Share___eq__, sn_bool, sn_NoneType, sn_str, sn_tuple, sn_list⟩, odf := ⟨kn_bool, kn_NoneType, kn_str, kn_tuple, kn_list, nn_bool, nn_NoneType, nn_str, nn_tuple, nn_list⟩ }
  refine ⟨N.d_law, fun s v => .of_eq rfl, fun base _ _ => ?_⟩
  have G_is_whole := ok_is_whole (P := l.prog) (w := w) (base := base) T
  have G_Share___init__ := ok_Share___init__ (P := l.prog) (w := w) (base := base) T G_is_whole
  have G_Share___eq__ := ok_Share___eq__ (P := l.prog) (w := w) (base := base) T G_is_whole
  have G_Share___str__ := ok_Share___str__ (P := l.prog) (w := w) (base := base) T
  have G_as_share := ok_as_share (P := l.prog) (w := w) (base := base) T G_Share___init__
  have G_compare := ok_compare (P := l.prog) (w := w) (base := base) T G_as_share
  have G__law_pool := ok__law_pool (P := l.prog) (w := w) (base := base) T
  have G__law_draw := ok__law_draw (P := l.prog) (w := w) (base := base) T
  have G__law_number := ok__law_number (P := l.prog) (w := w) (base := base) T G__law_draw
  have G__law_is_integer := ok__law_is_integer (P := l.prog) (w := w) (base := base) T
  have G__law_sign := ok__law_sign (P := l.prog) (w := w) (base := base) T
  have G__law_text := ok__law_text (P := l.prog) (w := w) (base := base) T
  have G_law := ok_law (P := l.prog) (w := w) (base := base) T G_Share___init__ G__law_text G_compare G__law_sign G__law_is_integer G__law_draw G__law_number G__law_pool G_Share___eq__ G_Share___str__
  exact G_law
theorem walk {l : PySem.W.OpenLaw} {q : Program} {loose : List Str} {XP : (Str → Option Value) → Heap → Prop} {YP : World → Heap → Prop} {d : DefRec} {K : Params → PySem.W.Frag} (hn : l.most = some 63) (hdf : d.params.defaults = [])
    (hY : ∀ (w : World) (h : Heap), YP w h → (K w.params).In h)
    (F : ∀ (w : World) (mg : Str → Option Value) (fa : Addr) (h : Heap), (K w.params).In h → h.Ns mainGlobals mg → mg d.name = some (.ref fa) →
      ∃ fd : FuncData, (∀ (s : Shared) (u : Value), BindsTo s fd ⟨[u], []⟩ [("_law_script", u)]) ∧ ∀ base : Heap, (K w.params).In base → base.Ns mainGlobals mg → FnOk l.prog w (K w.params) mg base CX0 9 fa fd ["_law_script"] (spLaw (K w.params))) :
    PySem.W.WalkO q loose XP YP l.row.toRowW d [] (fun f vs => PySem.call f vs) := by
  refine L2.walk_of (n := 63) (k := 9) (x := "_law_script") (CX := fun _ => CX0) (sp := fun w => spLaw (K w.params)) hn (by decide) hdf ⟨rfl, by decide, by decide⟩ hY F (fun _ _ a ns hl _ hS => ?_) fun _ _ _ _ _ z => z
  unfold spLaw
  exact ⟨a, ns, rfl, hS, hl, fun _ => rfl⟩
end My
open PySem PySem.W PyProof.Rows
set_option maxRecDepth 100000 in
set_option maxHeartbeats 0 in
theorem PySem.Challenge.cw_seatatonce_k03_share_order_and_text_holds : PySem.Challenge.rw_seatatonce_k03_share_order_and_text.Holds := by
  w_on; o_law; k_head; (case hw => w_witness2)
  k_fill
  refine My.walk (l := PySem.Challenge.rw_seatatonce_k03_share_order_and_text) rfl rfl (fun w h Y => PySem.W.kIn_of Y) ?F
  case F =>
    intro w mg fa h KX G hmg
    refine' My.all_mk KX G hmg ?g_SeatError ?g_BadShare ?g_Share ?z_isinstance ?z_bool ?z_int ?z_str ?z_list ?z_len ?z_range ?z_abs ?g_is_whole ?l_is_whole ?c_is_whole ?k_is_whole ?m_Share___init__ ?i_Share___init__ ?l_Share___init__ ?c_Share___init__ ?k_Share___init__ ?t_Share___init__ ?m_Share___eq__ ?i_Share___eq__ ?l_Share___eq__ ?c_Share___eq__ ?k_Share___eq__ ?m_Share___str__ ?i_Share___str__ ?l_Share___str__ ?c_Share___str__ ?k_Share___str__ ?g_as_share ?l_as_share ?c_as_share ?k_as_share ?g_compare ?l_compare ?c_compare ?k_compare ?g__law_pool ?l__law_pool ?c__law_pool ?k__law_pool ?g__law_draw ?l__law_draw ?c__law_draw ?k__law_draw ?g__law_number ?l__law_number ?c__law_number ?k__law_number ?g__law_is_integer ?l__law_is_integer ?c__law_is_integer ?k__law_is_integer ?g__law_sign ?l__law_sign ?c__law_sign ?k__law_sign ?g__law_text ?l__law_text ?c__law_text ?k__law_text ?g_law ?l_law ?c_law ?k_law ?kp_SeatError ?x_SeatError ?sb_SeatError ?ty_SeatError ?te_SeatError ?e1_SeatError ?e2_SeatError ?e3_SeatError ?e4_SeatError ?e5_SeatError ?kp_BadShare ?x_BadShare ?sb_BadShare ?ty_BadShare ?te_BadShare ?e1_BadShare ?e2_BadShare ?e3_BadShare ?e4_BadShare ?e5_BadShare ?kp_Share ?o1_Share ?o2_Share ?o3_Share ?o4_Share ?o5_Share ?o6_Share ?o7_Share ?na_Share_top ?na_Share_bottom ?hn ?htk ?kit_Share_int ?kit_Share_bool ?kit_int_Share ?c_gcd ?nf_Share ?nf_int ?sn_bool ?kn_bool ?nn_bool ?sn_NoneType ?kn_NoneType ?nn_NoneType ?sn_str ?kn_str ?nn_str ?sn_tuple ?kn_tuple ?nn_tuple ?sn_list ?kn_list ?nn_list
    (case g_SeatError => first | k_is | k_exc | rfl)
    (case g_BadShare => first | k_is | k_exc | rfl)
    (case g_Share => first | k_is | k_exc | rfl)
    (case z_isinstance => first | k_is | k_exc | rfl)
    (case z_bool => first | k_is | k_exc | rfl)
    (case z_int => first | k_is | k_exc | rfl)
    (case z_str => first | k_is | k_exc | rfl)
    (case z_list => first | k_is | k_exc | rfl)
    (case z_len => first | k_is | k_exc | rfl)
    (case z_range => first | k_is | k_exc | rfl)
    (case z_abs => first | k_is | k_exc | rfl)
    (case g_is_whole => first | k_is | k_exc | rfl)
    (case l_is_whole => first | k_is | k_exc | rfl)
    (case c_is_whole => first | k_is | k_exc | rfl)
    (case k_is_whole => first | k_is | k_exc | rfl)
    (case m_Share___init__ => first | k_is | k_exc | rfl)
    (case i_Share___init__ => first | k_is | k_exc | rfl)
    (case l_Share___init__ => first | k_is | k_exc | rfl)
    (case c_Share___init__ => first | k_is | k_exc | rfl)
    (case k_Share___init__ => first | k_is | k_exc | rfl)
    (case t_Share___init__ => first | k_is | k_exc | rfl)
    (case m_Share___eq__ => first | k_is | k_exc | rfl)
    (case i_Share___eq__ => first | k_is | k_exc | rfl)
    (case l_Share___eq__ => first | k_is | k_exc | rfl)
    (case c_Share___eq__ => first | k_is | k_exc | rfl)
    (case k_Share___eq__ => first | k_is | k_exc | rfl)
    (case m_Share___str__ => first | k_is | k_exc | rfl)
    (case i_Share___str__ => first | k_is | k_exc | rfl)
    (case l_Share___str__ => first | k_is | k_exc | rfl)
    (case c_Share___str__ => first | k_is | k_exc | rfl)
    (case k_Share___str__ => first | k_is | k_exc | rfl)
    (case g_as_share => first | k_is | k_exc | rfl)
    (case l_as_share => first | k_is | k_exc | rfl)
    (case c_as_share => first | k_is | k_exc | rfl)
    (case k_as_share => first | k_is | k_exc | rfl)
    (case g_compare => first | k_is | k_exc | rfl)
    (case l_compare => first | k_is | k_exc | rfl)
    (case c_compare => first | k_is | k_exc | rfl)
    (case k_compare => first | k_is | k_exc | rfl)
    (case g__law_pool => first | k_is | k_exc | rfl)
    (case l__law_pool => first | k_is | k_exc | rfl)
    (case c__law_pool => first | k_is | k_exc | rfl)
    (case k__law_pool => first | k_is | k_exc | rfl)
    (case g__law_draw => first | k_is | k_exc | rfl)
    (case l__law_draw => first | k_is | k_exc | rfl)
    (case c__law_draw => first | k_is | k_exc | rfl)
    (case k__law_draw => first | k_is | k_exc | rfl)
    (case g__law_number => first | k_is | k_exc | rfl)
    (case l__law_number => first | k_is | k_exc | rfl)
    (case c__law_number => first | k_is | k_exc | rfl)
    (case k__law_number => first | k_is | k_exc | rfl)
    (case g__law_is_integer => first | k_is | k_exc | rfl)
    (case l__law_is_integer => first | k_is | k_exc | rfl)
    (case c__law_is_integer => first | k_is | k_exc | rfl)
    (case k__law_is_integer => first | k_is | k_exc | rfl)
    (case g__law_sign => first | k_is | k_exc | rfl)
    (case l__law_sign => first | k_is | k_exc | rfl)
    (case c__law_sign => first | k_is | k_exc | rfl)
    (case k__law_sign => first | k_is | k_exc | rfl)
    (case g__law_text => first | k_is | k_exc | rfl)
    (case l__law_text => first | k_is | k_exc | rfl)
    (case c__law_text => first | k_is | k_exc | rfl)
    (case k__law_text => first | k_is | k_exc | rfl)
    (case g_law => first | k_is | k_exc | rfl)
    (case l_law => first | k_is | k_exc | rfl)
    (case c_law => first | k_is | k_exc | rfl)
    (case k_law => first | k_is | k_exc | rfl)
    (case kp_SeatError => first | k_is | k_exc | rfl)
    (case x_SeatError => first | k_is | k_exc | rfl)
    (case sb_SeatError => first | k_is | k_exc | rfl)
    (case ty_SeatError => first | k_is | k_exc | rfl)
    (case te_SeatError => first | k_is | k_exc | rfl)
    (case e1_SeatError => first | k_is | k_exc | rfl)
    (case e2_SeatError => first | k_is | k_exc | rfl)
    (case e3_SeatError => first | k_is | k_exc | rfl)
    (case e4_SeatError => first | k_is | k_exc | rfl)
    (case e5_SeatError => first | k_is | k_exc | rfl)
    (case kp_BadShare => first | k_is | k_exc | rfl)
    (case x_BadShare => first | k_is | k_exc | rfl)
    (case sb_BadShare => first | k_is | k_exc | rfl)
    (case ty_BadShare => first | k_is | k_exc | rfl)
    (case te_BadShare => first | k_is | k_exc | rfl)
    (case e1_BadShare => first | k_is | k_exc | rfl)
    (case e2_BadShare => first | k_is | k_exc | rfl)
    (case e3_BadShare => first | k_is | k_exc | rfl)
    (case e4_BadShare => first | k_is | k_exc | rfl)
    (case e5_BadShare => first | k_is | k_exc | rfl)
    (case kp_Share => first | k_is | k_exc | rfl)
    (case o1_Share => first | k_is | k_exc | rfl)
    (case o2_Share => first | k_is | k_exc | rfl)
    (case o3_Share => first | k_is | k_exc | rfl)
    (case o4_Share => first | k_is | k_exc | rfl)
    (case o5_Share => first | k_is | k_exc | rfl)
    (case o6_Share => first | k_is | k_exc | rfl)
    (case o7_Share => first | k_is | k_exc | rfl)
    (case na_Share_top => first | k_is | k_exc | rfl)
    (case na_Share_bottom => first | k_is | k_exc | rfl)
    (case hn => first | k_is | k_exc | rfl)
    (case htk => first | k_is | k_exc | rfl)
    (case kit_Share_int => first | k_is | k_exc | rfl)
    (case kit_Share_bool => first | k_is | k_exc | rfl)
    (case kit_int_Share => first | k_is | k_exc | rfl)
    (case c_gcd => first | k_is | k_exc | rfl)
    (case nf_Share => first | k_is | k_exc | rfl)
    (case nf_int => first | k_is | k_exc | rfl)
    (case sn_bool => first | k_is | k_exc | rfl)
    (case kn_bool => first | k_is | k_exc | rfl)
    (case nn_bool => first | k_is | k_exc | rfl)
    (case sn_NoneType => first | k_is | k_exc | rfl)
    (case kn_NoneType => first | k_is | k_exc | rfl)
    (case nn_NoneType => first | k_is | k_exc | rfl)
    (case sn_str => first | k_is | k_exc | rfl)
    (case kn_str => first | k_is | k_exc | rfl)
    (case nn_str => first | k_is | k_exc | rfl)
    (case sn_tuple => first | k_is | k_exc | rfl)
    (case kn_tuple => first | k_is | k_exc | rfl)
    (case nn_tuple => first | k_is | k_exc | rfl)
    (case sn_list => first | k_is | k_exc | rfl)
    (case kn_list => first | k_is | k_exc | rfl)
    (case nn_list => first | k_is | k_exc | rfl)
#print axioms PySem.Challenge.cw_seatatonce_k03_share_order_and_text_holds
