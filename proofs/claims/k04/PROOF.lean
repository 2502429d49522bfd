import PyProof.Rows.All
import Wide.All
import OpenK.AllK
import Wide.FinOn
import HandS.ForMost
import HandS.ForExc
import HandS.Codes
import HandS.More
import HandS.IsInst
import HandS.Wide
import HandS.Gcd
import HandS.Defaults
import HandS.OwnEq
import HandS.TupAny
import HandS.Deep
import HandS.Flow
import HandS.ExcOwn
import HandS.TryOnly
import HandS.ExcIs
import KE.KOpsOwn
import PyProof.ListMulRight
import PyProof.Rows.ListMulR
import PySem.Challenge.RW_seatatonce_k04_share_mean
set_option Elab.async false
set_option linter.all false
set_option maxRecDepth 100000
set_option maxHeartbeats 4000000
local macro_rules | `(tactic| wtm_at "ne") => `(tactic| first | assumption | exact Ne.symm (by assumption) | exact L2.ne_of_none (by assumption) (by assumption) | exact Ne.symm (L2.ne_of_none (by assumption) (by assumption)) | exact L2.ne_of_none L2.upd_same (by assumption) | exact Ne.symm (L2.ne_of_none L2.upd_same (by assumption)))
local macro_rules | `(tactic| wtm_at "hp") => `(tactic| first | assumption | exact L2.upd_same | exact (L2.upd_ne (by wtm_at "ne")).trans (by wtm_at "hp"))
local macro_rules | `(tactic| wtm_at "lk") => `(tactic| rfl)
local macro_rules | `(tactic| wtm_at "side") => `(tactic| first
  | (unfold L2.CMul; omega)
  | (unfold L2.CDiv; omega)
  | (unfold L2.CPow; decide)
  | (show (0 : Int) < _; omega))
local macro_rules | `(tactic| wtm_at "r1") => `(tactic| first
  | refine ⟨_, rfl, ?_⟩
  | refine ⟨_, _, rfl, rfl, ?_⟩
  | refine ⟨_, _, _, _, rfl, rfl, L2.SqL.of (by wtm_at "hp"), rfl, ?_⟩
  | refine ⟨_, _, _, _, rfl, rfl, L2.SqT.of (by wtm_at "hp"), rfl, ?_⟩
  | refine ⟨_, _, _, _, rfl, rfl, (by wtm_at "hp"), rfl, ?_⟩
  | refine ⟨_, _, rfl, Or.inl (L2.SqL.of (by wtm_at "hp")), ?_⟩
  | refine ⟨_, _, rfl, Or.inr (L2.SqT.of (by wtm_at "hp")), ?_⟩
  | refine Or.inl ⟨_, rfl, ?_⟩
  | refine ⟨_, _, _, _, _, rfl, (by wtm_at "hp"), (by assumption), (by assumption), (by wtm_at "lk"), ?_⟩
  | refine And.intro (by wtm_at "side") ?_
  | refine ⟨rfl, ?_⟩
  | refine L2.iteF ?_
  | refine L2.iteT ?_
  )
local macro_rules | `(tactic| wtm_at "rd") => `(tactic| repeat wtm_at "r1")
namespace My
open PySem L2
/-! ### heaps -/
/-- all but p is as it was -/
def But (p : Addr) (H H' : Hp) : Prop := ∀ b o, H b = some o → b ≠ p → H' b = some o
theorem But.refl (p : Addr) (H : Hp) : But p H H := fun _ _ e _ => e
theorem But.trans {p : Addr} {H H1 H2 : Hp} (a : But p H H1) (b : But p H1 H2) : But p H H2 := fun x o e n => b x o (a x o e n) n
theorem But.upd {p : Addr} {H H1 : Hp} {o : HO} (a : But p H H1) : But p H (upd H1 p o) := fun x u e n => by rw [upd_ne n]; exact a x u e n
theorem But.new {p q : Addr} {H H1 : Hp} {o : HO} (a : But p H H1) (h : H q = none) : But p H (L2.upd H1 q o) := fun x u e n => by rw [upd_ne (ne_of_none e h)]; exact a x u e n
theorem Same.but {p : Addr} {H H1 : Hp} (a : Same H H1) : But p H H1 := fun x o e _ => a x o e
theorem same_new {q : Addr} {H : Hp} {o : HO} (h : H q = none) : Same H (L2.upd H q o) := fun x u e => by rw [upd_ne (ne_of_none e h)]; exact e
theorem Same.new {q : Addr} {H H1 : Hp} {o : HO} (a : Same H H1) (h : H q = none) : Same H (L2.upd H1 q o) := fun x u e => by rw [upd_ne (ne_of_none e h)]; exact a x u e
theorem Same.but_new {p : Addr} {H H1 H2 : Hp} (a : Same H H1) (b : But p H1 H2) (hp : H p = none) : Same H H2 := fun x o e => b x o (a x o e) (ne_of_none e hp)
theorem atI_in {α : Type} {xs : List α} {d : Int} (h0 : 0 ≤ d) (h1 : d < xs.length) : ∃ v, v ∈ xs ∧ xs[d.toNat]? = some v ∧ atI xs d = some v := by
  obtain ⟨j, rfl⟩ : ∃ j : Nat, d = j := ⟨d.toNat, by omega⟩
  have hj : j < xs.length := by omega
  have e : xs[j]? = some xs[j] := List.getElem?_eq_getElem hj
  exact ⟨xs[j], List.getElem_mem hj, e, atI_nat e⟩
/-! ### the pool -/
/-- a pool stands at p: its script's copy at l -/
def Pool (H : Hp) (p l : Addr) (ns : List Int) : Prop := ∃ a b c d : Int, H p = some (.lst [.ref l, .int a, .int b, .int c, .int d]) ∧ H l = some (.lst (ns.map V.int)) ∧ 0 ≤ a
theorem Pool.ne {H : Hp} {p l : Addr} {ns : List Int} (h : Pool H p l ns) : l ≠ p := by
  obtain ⟨a, b, c, d, hp, hl, _⟩ := h
  intro e; subst e; rw [hp] at hl
  have := HO.lst.inj (Option.some.inj hl)
  cases ns with
  | nil => cases this
  | cons x xs => cases this
theorem Pool.same {H H' : Hp} {p l : Addr} {ns : List Int} (h : Pool H p l ns) (s : Same H H') : Pool H' p l ns := by
  obtain ⟨a, b, c, d, hp, hl, ha⟩ := h
  exact ⟨a, b, c, d, s _ _ hp, s _ _ hl, ha⟩
theorem Pool.some {H : Hp} {p l : Addr} {ns : List Int} (h : Pool H p l ns) : ∃ o, H p = some o := by
  obtain ⟨a, b, c, d, hp, hl, ha⟩ := h
  exact ⟨_, hp⟩
theorem Pool.neq {H : Hp} {p l q : Addr} {ns : List Int} (h : Pool H p l ns) (hq : H q = none) : q ≠ p := by
  obtain ⟨o, e⟩ := h.some
  exact (ne_of_none e hq).symm
theorem Pool.neql {H : Hp} {p l q : Addr} {ns : List Int} (h : Pool H p l ns) (hq : H q = none) : q ≠ l := by
  obtain ⟨a, b, c, d, hp, hl, ha⟩ := h
  exact (ne_of_none hl hq).symm
theorem Pool.upd {H : Hp} {p l q : Addr} {ns : List Int} {o : HO} (h : Pool H p l ns) (n1 : q ≠ p) (n2 : q ≠ l) : Pool (L2.upd H q o) p l ns := by
  obtain ⟨a, b, c, d, hp, hl, ha⟩ := h
  exact ⟨a, b, c, d, by rw [upd_ne n1.symm]; exact hp, by rw [upd_ne n2.symm]; exact hl, ha⟩
/-- _law_pool -/
@[irreducible] def spPool (K : PySem.W.Frag) : Sp := fun vs H Q _ => ∃ (a : Addr) (ns : List Int), vs = [.ref a] ∧ SqL K H a (ns.map V.int) ∧
  ∀ (p l : Addr) (H' : Hp), H p = none → H l = none → Pool H' p l ns → Same H H' → Q (.ref p) H'
theorem pool_ok {K : PySem.W.Frag} {a : Addr} {ns : List Int} {H : Hp} {Q : VK} {E : XK} (h : SqL K H a (ns.map V.int)) (k : ∀ (p l : Addr) (H' : Hp), H p = none → H l = none → Pool H' p l ns → Same H H' → Q (.ref p) H') : spPool K [.ref a] H Q E := by
  unfold spPool
  exact ⟨a, ns, rfl, h, k⟩
/-- _law_draw -/
@[irreducible] def spDraw : Sp := fun vs H Q _ => ∃ (p l : Addr) (ns : List Int) (m : Int), vs = [.ref p, .int m] ∧ Pool H p l ns ∧ 0 < m ∧ m < 1073741824 ∧
  ∀ (d : Int) (H' : Hp), 0 ≤ d → d < m → Pool H' p l ns → But p H H' → Q (.int d) H'
theorem draw_ok {p l : Addr} {ns : List Int} {m : Int} {H : Hp} {Q : VK} {E : XK} (hP : Pool H p l ns) (h0 : 0 < m) (h1 : m < 1073741824)
    (k : ∀ (d : Int) (H' : Hp), 0 ≤ d → d < m → Pool H' p l ns → But p H H' → Q (.int d) H') : spDraw [.ref p, .int m] H Q E := by unfold spDraw; exact ⟨p, l, ns, m, rfl, hP, h0, h1, k⟩
/-- _law_number -/
@[irreducible] def spNum : Sp := fun vs H Q _ => ∃ (p l : Addr) (ns : List Int) (m : Nat), vs = [.ref p, .int (m : Int)] ∧ Pool H p l ns ∧ 0 < m ∧ m < 5 ∧
  ∀ (z : Int) (H' : Hp), z.natAbs < 10000000 ^ m → Pool H' p l ns → But p H H' → Q (.int z) H'
theorem num_ok {p l : Addr} {ns : List Int} {H : Hp} {Q : VK} {E : XK} (m : Nat) (hP : Pool H p l ns) (h0 : 0 < m) (h1 : m < 5)
    (k : ∀ (z : Int) (H' : Hp), z.natAbs < 10000000 ^ m → Pool H' p l ns → But p H H' → Q (.int z) H') : spNum [.ref p, .int (m : Int)] H Q E := by unfold spNum; exact ⟨p, l, ns, m, rfl, hP, h0, h1, k⟩
end My
namespace My
open PySem L2
/-- the law's own promise: True, whatever the script -/
@[irreducible] def spLaw (K : PySem.W.Frag) : Sp := fun vs H Q _ => ∃ (a : Addr) (ns : List Int), vs = [.ref a] ∧ SqL K H a (ns.map V.int) ∧ ns.length ≤ 63 ∧ ∀ H', Q (.bl true) H'
end My
namespace My
open PySem L2
/-! ### kinds of values: what isinstance(x, int), isinstance(x, bool) tell -/
def isI : V → Bool
  | .int _ => true
  | _ => false
def isB : V → Bool
  | .bl _ => true
  | _ => false
/-- the value's type is known, and what it has to do with int and bool -/
def Kd (K : PySem.W.Frag) (H : Hp) (x : V) : Prop := ∃ t, TyX K H x t ∧ PySem.W.kitOne K t (.type "int") = some (isI x || isB x) ∧ PySem.W.kitOne K t (.type "bool") = some (isB x)
section
variable {K : PySem.W.Frag} {H H' : Hp}
theorem Kd.int (i : Int) : Kd K H (.int i) := ⟨_, .base (.int i), kit_ty (r := true) (by decide +kernel), kit_ty (r := false) (by decide +kernel)⟩
theorem Kd.bl (b : Bool) : Kd K H (.bl b) := ⟨_, .base (.bl b), kit_ty (r := true) (by decide +kernel), kit_ty (r := true) (by decide +kernel)⟩
theorem Kd.non : Kd K H .non := ⟨_, .base .non, kit_ty (r := false) (by decide +kernel), kit_ty (r := false) (by decide +kernel)⟩
theorem Kd.str (x : Str) : Kd K H (.str x) := ⟨_, .base (.str x), kit_ty (r := false) (by decide +kernel), kit_ty (r := false) (by decide +kernel)⟩
theorem Kd.tup {a : Addr} {xs : List V} (h : H a = some (.tup xs)) : Kd K H (.ref a) := ⟨_, .base (.tup h), kit_ty (r := false) (by decide +kernel), kit_ty (r := false) (by decide +kernel)⟩
theorem Kd.lst {a : Addr} {xs : List V} (h : H a = some (.lst xs)) : Kd K H (.ref a) := ⟨_, .base (.lst h), kit_ty (r := false) (by decide +kernel), kit_ty (r := false) (by decide +kernel)⟩
theorem Kd.dct {a : Addr} {xs : List (Key × V)} (h : H a = some (.dK xs)) : Kd K H (.ref a) := ⟨_, .base (.dK h), kit_ty (r := false) (by decide +kernel), kit_ty (r := false) (by decide +kernel)⟩
/-- is_whole and _law_is_integer -/
@[irreducible] def spWhole (K : PySem.W.Frag) : Sp := fun vs H Q _ => ∃ x, vs = [x] ∧ Kd K H x ∧ Q (.bl (isI x)) H
end
theorem whole_ok {K : PySem.W.Frag} {x : V} {H : Hp} {Q : VK} {E : XK} (h : Kd K H x) (k : Q (.bl (isI x)) H) : spWhole K [x] H Q E := by
  unfold spWhole
  exact ⟨x, rfl, h, k⟩
/-- an own class, as isinstance asks it -/
structure OwnT (K : PySem.W.Frag) (C : Addr) : Prop where
  cl : Cls K C
  ha : PySem.W.findIn K (.ref C) "__class__" = some (some (.builtin "object.__class__"))
  hn : PySem.W.specialIn K (.builtin "object.__class__") "__get__" = some (some (.builtin "getset_descriptor.__get__"))
  htk : PySem.W.takesIn K (.builtin "object.__class__") = some true
  hm : PySem.W.mroIn K C (.type "object") = some true
theorem OwnT.ty {K : PySem.W.Frag} {C : Addr} (T : OwnT K C) {H : Hp} {a dx : Addr} {fs : List (Str × V)} (h : H a = some (.ins C dx fs)) : TyX K H (.ref a) (.ref C) := .base (.ins h T.cl T.ha T.hn T.htk T.hm)
theorem kit_self {K : PySem.W.Frag} {C : Addr} : PySem.W.kitOne K (.ref C) (.ref C) = some true := by
  unfold PySem.W.kitOne
  rw [if_pos (by simp)]
/-! ### a class made within a try: what it raises is wished for at the caller's slots -/
section
variable {X : Cx} {C f : Addr} {CX : CXT} {k : Nat} {fd : FuncData} {ps : List Str} {sp : Sp} {dvs : List V} {ds : List Value} {E : St → XK}
def tMakeS (C : Addr) (sp : Sp) (dvs : List V) (E : St → XK) (t : TA) : TE := fun σ H Q => t σ H fun vs H1 =>
  ∀ x dx, H1 x = none → H1 dx = none → dx ≠ x → sp (.ref x :: (vs ++ dvs)) (upd (upd H1 dx (.own x)) x (.ins C dx [])) (fun v H2 => v = .non ∧ Q (.ref x) H2) (E σ)
theorem run_makeS {pins : List (Addr × Obj)} {σ : St} {H : Hp} {s : Shared} {Q : VK} {us : List Value} {vs : List V} (M : Mk X.K C f)
    (F : FnOk X.prog X.w X.K X.mg X.base CX k f fd ps sp) (hr : Room (k + 1) X.A) (hb : Binds X.K fd ps ds) (hd : Vals dvs ds)
    (hx : PassesAt CX X σ (E σ)) (I : Inv X pins σ H s) (r : Vals vs us)
    (h : ∀ x dx, H x = none → H dx = none → dx ≠ x → sp (.ref x :: (vs ++ dvs)) (upd (upd H dx (.own x)) x (.ins C dx [])) (fun v H2 => v = .non ∧ Q (.ref x) H2) (E σ)) :
    wpAny (model X.prog X.w) X.A (call (.ref C) us) (EP X pins σ Q) X.xe s := by
  generalize hz : s.heap.objs.size = z
  have hq := h (z + 1) z (I.hok.fresh (by rw [hz]; exact Nat.le_succ z)) (I.hok.fresh (by rw [hz]; exact Nat.le_refl z)) (Nat.ne_of_lt (Nat.lt_succ_self z))
  have J := Inv.made (C := C) I
  rw [hz] at J
  have r2 : Vals (V.ref (z + 1) :: (vs ++ dvs)) (Value.ref (z + 1) :: (us ++ ds)) := .cons rfl (r.append hd)
  have hl : (Value.ref (z + 1) :: us ++ ds).length = ps.length := (r2.length.symm.trans (F.len _ _ _ _ hq) : _)
  refine wpAny_call (make_map (f := f) I.kIn M.makes M.init (beq_iff_eq.mp M.fn) ?_)
  rw [hz]
  refine codeAny_mono (F.run _ X.stack _ _ ⟨Value.ref (z + 1) :: us, []⟩ (Value.ref (z + 1) :: (us ++ ds)) _ _ (E σ) (hr.make C us []) (J.env0.make C us []) (hb _ (Value.ref (z + 1) :: us) J.kIn hl) r2 hq) fun y s' hy => ?_
  match y, hy with
  | .error e, hy => exact hx pins _ _ e s' J hy
  | .ok (.ret u), hy =>
    obtain ⟨v, H', J3, rv, ev, q3⟩ := J.after hy
    subst ev
    exact ⟨rv, ⟨V.ref (z + 1), H', J3, rfl, q3⟩⟩
  | .ok .next, hy => exact hy.elim
  | .ok .brk, hy => exact hy.elim
  | .ok .cont, hy => exact hy.elim
theorem pe_makeS {x : Str} {p pos : Pos} {e : Expr} {es : List Expr} {t : TA} (M : Mk X.K C f) (F : FnOk X.prog X.w X.K X.mg X.base CX k f fd ps sp)
    (hr : Room (k + 1) X.A) (hg : Gl X x) (hm : X.mg x = some (.ref C)) (hb : Binds X.K fd ps ds) (hd : Vals dvs ds) (hx : ∀ σ, PassesAt CX X σ (E σ))
    (ha : PA X (e :: es) t) (hdb : (x == ("__debug__" : Str)) = false := by decide)
    (he : starEach (e :: es) X.env = (false, eval e X.env) :: starEach es X.env := by rfl) (hpl : (backTo pos (starEach es X.env)).any (·.1) = false := by rfl) :
    PE X (.Call (.Name x p) (e :: es) [] pos) (tMakeS C sp dvs E t) := by
  constructor
  intro pins s σ H Q I h
  refine wpAny_Call_Name_kw (ld_glob I hg hm ?_ hdb)
  refine PySem.W.callWith_K (h₀ := X.base) I.ok.mod.kin M.kp (thn (ha.run pos pins s σ H _ I h) ?_) he hpl
  rintro us s1 ⟨vs, H1, I1, r, q⟩
  exact ⟨I1.kIn, run_makeS M F hr hb hd (hx σ) I1 r q⟩
end
/-! ### isinstance of a caught error, its class told by the reading -/
def rIsE2 (K : PySem.W.Frag) (D a : Addr) (cls : Value) (d : Option Addr) : List V → Hp → VK → Prop := fun xs H Q => (cls = .ref D ∧ d = none) ∧ rIsE K D a xs H Q
theorem call_isE2 {X : Cx} {a D : Addr} {oe : Obj} {cls : Value} {d : Option Addr} {pn : List (Addr × Obj)} (C : ExcC X.K D) (hz : Zc cls d oe) (hf : ∃ vs, oe.data = .fields vs) :
    CallR (X.suite a ((a, oe) :: pn)) (.builtin "isinstance") (rIsE2 X.K D a cls d) := by
  intro pins s σ H xs us Q I r h
  obtain ⟨⟨e1, e2⟩, h⟩ := h
  subst e1 e2
  exact call_isE C hz hf pins s σ H xs us Q I r h
end My
namespace My
open PySem L2
/-! ### rules within an except suite, over the def's own K -/
theorem call_len_seqS {X : Cx} {a : Addr} {pn : List (Addr × Obj)} : CallR (X.suite a pn) (.builtin "len") (fun xs H Q => ∃ p ys, xs = [.ref p] ∧ (SqL X.K H p ys ∨ SqT X.K H p ys) ∧ Q (.int ys.length) H) := call_len_seq
end My
namespace My
open PySem L2
/-! ### fractions in lowest terms -/
def gcdI (t b : Int) : Int := ((Nat.gcd t.natAbs b.natAbs : Nat) : Int)
def shT (t b : Int) : Int := (if b < 0 then -t else t) / gcdI t b
def shB (t b : Int) : Int := (if b < 0 then -b else b) / gcdI t b
theorem gcdI_pos {t b : Int} (h : b ≠ 0) : 0 < gcdI t b := by
  unfold gcdI
  have : 0 < Nat.gcd t.natAbs b.natAbs := Nat.gcd_pos_of_pos_right _ (by omega)
  omega
theorem gcdI_dvd_l (t b : Int) : gcdI t b ∣ t := by
  unfold gcdI
  exact Int.ofNat_dvd_left.mpr (Nat.gcd_dvd_left _ _)
theorem gcdI_dvd_r (t b : Int) : gcdI t b ∣ b := by
  unfold gcdI
  exact Int.ofNat_dvd_left.mpr (Nat.gcd_dvd_right _ _)
/-- the sign taken to the top -/
theorem sh_form {t b : Int} (h : b ≠ 0) : ∃ s : Int, (s = 1 ∨ s = -1) ∧ shT t b * gcdI t b = s * t ∧ shB t b * gcdI t b = s * b ∧ 0 < s * b := by
  have hg := gcdI_pos (t := t) h
  unfold shT shB
  by_cases hb : b < 0
  · refine ⟨-1, .inr rfl, ?_, ?_, by omega⟩
    · rw [if_pos hb, Int.ediv_mul_cancel ((Int.dvd_neg).mpr (gcdI_dvd_l t b))]; omega
    · rw [if_pos hb, Int.ediv_mul_cancel ((Int.dvd_neg).mpr (gcdI_dvd_r t b))]; omega
  · refine ⟨1, .inl rfl, ?_, ?_, by omega⟩
    · rw [if_neg hb, Int.ediv_mul_cancel (gcdI_dvd_l t b)]; omega
    · rw [if_neg hb, Int.ediv_mul_cancel (gcdI_dvd_r t b)]; omega
theorem shB_pos {t b : Int} (h : b ≠ 0) : 1 ≤ shB t b := by
  obtain ⟨s, _, _, h2, h3⟩ := sh_form (t := t) h
  have hg := gcdI_pos (t := t) h
  rw [← h2] at h3
  have := Int.pos_of_mul_pos_left h3 hg
  omega
theorem sh_cross {t b : Int} (h : b ≠ 0) : shT t b * b = shB t b * t := by
  obtain ⟨s, hs, h1, h2, _⟩ := sh_form (t := t) h
  have hg := gcdI_pos (t := t) h
  have e1 : shT t b * gcdI t b * b = s * t * b := by rw [h1]
  have e2 : shB t b * gcdI t b * t = s * b * t := by rw [h2]
  have e3 : (shT t b * b) * gcdI t b = (shB t b * t) * gcdI t b := by
    rw [Int.mul_right_comm, e1, Int.mul_right_comm (shB t b), e2, Int.mul_right_comm]
  exact Int.eq_of_mul_eq_mul_right (by omega) e3
theorem sh_natAbs {t b : Int} (h : b ≠ 0) : (shT t b).natAbs * Nat.gcd t.natAbs b.natAbs = t.natAbs ∧ (shB t b).natAbs * Nat.gcd t.natAbs b.natAbs = b.natAbs := by
  obtain ⟨s, hs, h1, h2, _⟩ := sh_form (t := t) h
  have a1 := congrArg Int.natAbs h1
  have a2 := congrArg Int.natAbs h2
  have as : s.natAbs = 1 := by rcases hs with e | e <;> rw [e] <;> rfl
  rw [Int.natAbs_mul, Int.natAbs_mul, as, Nat.one_mul] at a1 a2
  exact ⟨a1, a2⟩
theorem sh_cop {t b : Int} (h : b ≠ 0) : Nat.gcd (shT t b).natAbs (shB t b).natAbs = 1 := by
  obtain ⟨h1, h2⟩ := sh_natAbs (t := t) h
  have hg : 0 < Nat.gcd t.natAbs b.natAbs := Nat.gcd_pos_of_pos_right _ (by omega)
  have e : Nat.gcd ((shT t b).natAbs * Nat.gcd t.natAbs b.natAbs) ((shB t b).natAbs * Nat.gcd t.natAbs b.natAbs) = Nat.gcd t.natAbs b.natAbs := by rw [h1, h2]
  rw [Nat.gcd_mul_right] at e
  exact Nat.eq_of_mul_eq_mul_right hg (by rw [e, Nat.one_mul])
theorem shT_le {t b : Int} (h : b ≠ 0) : (shT t b).natAbs ≤ t.natAbs := by
  obtain ⟨h1, h2⟩ := sh_natAbs (t := t) h
  have hg : 0 < Nat.gcd t.natAbs b.natAbs := Nat.gcd_pos_of_pos_right _ (by omega)
  calc (shT t b).natAbs ≤ (shT t b).natAbs * Nat.gcd t.natAbs b.natAbs := Nat.le_mul_of_pos_right _ hg
    _ = t.natAbs := h1
theorem shB_le {t b : Int} (h : b ≠ 0) : (shB t b).natAbs ≤ b.natAbs := by
  obtain ⟨h1, h2⟩ := sh_natAbs (t := t) h
  have hg : 0 < Nat.gcd t.natAbs b.natAbs := Nat.gcd_pos_of_pos_right _ (by omega)
  calc (shB t b).natAbs ≤ (shB t b).natAbs * Nat.gcd t.natAbs b.natAbs := Nat.le_mul_of_pos_right _ hg
    _ = b.natAbs := h2
/-- two fractions in lowest terms with the same quotient are one -/
theorem cop_unique {p q r s : Int} (hq : 1 ≤ q) (hs : 1 ≤ s) (c1 : Nat.gcd p.natAbs q.natAbs = 1) (c2 : Nat.gcd r.natAbs s.natAbs = 1) (e : p * s = r * q) : p = r ∧ q = s := by
  have e' : p.natAbs * s.natAbs = r.natAbs * q.natAbs := by
    have := congrArg Int.natAbs e
    rwa [Int.natAbs_mul, Int.natAbs_mul] at this
  have d1 : q.natAbs ∣ s.natAbs := by
    have : q.natAbs ∣ p.natAbs * s.natAbs := ⟨r.natAbs, by rw [e', Nat.mul_comm]⟩
    exact (Nat.Coprime.dvd_of_dvd_mul_left (by rw [Nat.coprime_comm]; exact c1) this)
  have d2 : s.natAbs ∣ q.natAbs := by
    have : s.natAbs ∣ r.natAbs * q.natAbs := ⟨p.natAbs, by rw [← e', Nat.mul_comm]⟩
    exact (Nat.Coprime.dvd_of_dvd_mul_left (by rw [Nat.coprime_comm]; exact c2) this)
  have e1 : q.natAbs = s.natAbs := Nat.dvd_antisymm d1 d2
  have e2 : q = s := by omega
  subst e2
  exact ⟨Int.eq_of_mul_eq_mul_right (by omega) e, rfl⟩
/-- equal quotients, crosswise -/
theorem cross_eq {t b p q r s : Int} (hb : b ≠ 0) (h1 : p * b = q * t) (h2 : r * b = s * t) : p * s = r * q := by
  have e : (p * s) * b = (r * q) * b := by
    rw [Int.mul_right_comm, h1, Int.mul_right_comm r, h2, Int.mul_right_comm, Int.mul_right_comm s, Int.mul_comm q s]
  exact Int.eq_of_mul_eq_mul_right hb e
/-! ### a Share on the heap -/
theorem tb : ¬ (("top" : Str) = "bottom") := by decide +kernel
def shF (t b : Int) : List (Str × V) := putF "bottom" (.int b) (putF "top" (.int t) [])
theorem shF_top (t b : Int) : (shF t b).lookup ("top" : Str) = some (.int t) := by
  unfold shF
  rw [lookup_putF, if_neg tb, lookup_putF, if_pos rfl]
theorem shF_bot (t b : Int) : (shF t b).lookup ("bottom" : Str) = some (.int b) := by
  unfold shF
  rw [lookup_putF, if_pos rfl]
theorem shF_no (t b : Int) {m : Str} (h1 : ¬ m = "bottom") (h2 : ¬ m = "top") : (shF t b).lookup m = none := by
  unfold shF
  rw [lookup_putF, if_neg h1, lookup_putF, if_neg h2]
  rfl
end My
local macro_rules | `(tactic| wtm_at "lk") => `(tactic| first | exact My.shF_top _ _ | exact My.shF_bot _ _)
namespace My
open PySem L2
/-- a Share t / b stands at x -/
def ShareAt (C : Addr) (H : Hp) (x : Addr) (t b : Int) : Prop := ∃ dx, H x = some (.ins C dx (shF t b))
theorem ShareAt.same {C : Addr} {H H' : Hp} {x : Addr} {t b : Int} (h : ShareAt C H x t b) (s : Same H H') : ShareAt C H' x t b := by
  obtain ⟨dx, h⟩ := h
  exact ⟨dx, s _ _ h⟩
theorem ShareAt.but {C p : Addr} {H H' : Hp} {x : Addr} {t b : Int} (h : ShareAt C H x t b) (s : But p H H') (n : x ≠ p) : ShareAt C H' x t b := by
  obtain ⟨dx, h⟩ := h
  exact ⟨dx, s _ _ h n⟩
/-- what Share(a, c) takes -/
def good (a c : V) : Prop := ∃ t b : Int, a = .int t ∧ c = .int b ∧ b ≠ 0
/-- Share.__init__ -/
@[irreducible] def spShare (K : PySem.W.Frag) (C B : Addr) : Sp := fun vs H Q E => ∃ (x dx : Addr) (a c : V), vs = [.ref x, a, c] ∧ H x = some (.ins C dx []) ∧ Kd K H a ∧ Kd K H c ∧
  (¬ good a c → E (.ref B) none H) ∧
  (∀ t b : Int, a = .int t → c = .int b → b ≠ 0 → t.natAbs < 2 ^ 4000 ∧ b.natAbs < 2 ^ 4000 ∧ ∀ H', H' x = some (.ins C dx (shF (shT t b) (shB t b))) → But x H H' → Q .non H')
theorem made_same {H : Hp} {x dx C : Addr} {fs : List (Str × V)} (nx : H x = none) (ndx : H dx = none) : Same H (upd (upd H dx (.own x)) x (.ins C dx fs)) := fun b o e => by
  rw [upd_ne (ne_of_none e nx), upd_ne (ne_of_none e ndx)]
  exact e
theorem share_ok {K : PySem.W.Frag} {C B : Addr} {H : Hp} {Q : VK} {E : XK} (t b : Int) (hb : b ≠ 0) (h1 : t.natAbs < 2 ^ 4000) (h2 : b.natAbs < 2 ^ 4000) {x dx : Addr} (nx : H x = none) (ndx : H dx = none)
    (k : ∀ H', ShareAt C H' x (shT t b) (shB t b) → Same H H' → Q .non H') : spShare K C B [.ref x, .int t, .int b] (upd (upd H dx (.own x)) x (.ins C dx [])) Q E := by
  unfold spShare
  refine ⟨x, dx, .int t, .int b, rfl, upd_same, .int t, .int b, fun ng => absurd ⟨t, b, rfl, rfl, hb⟩ ng, fun t' b' et eb _ => ?_⟩
  cases et; cases eb
  exact ⟨h1, h2, fun H' hx hk => k H' ⟨dx, hx⟩ fun y o e => hk y o (made_same nx ndx y o e) (ne_of_none e nx)⟩
theorem share_bad {K : PySem.W.Frag} {C B : Addr} {H : Hp} {Q : VK} {E : XK} {a c : V} (ng : ¬ good a c) (ha : ∀ H', Same H H' → Kd K H' a) (hc : ∀ H', Same H H' → Kd K H' c) {x dx : Addr} (nx : H x = none) (ndx : H dx = none)
    (k : ∀ H', Same H H' → E (.ref B) none H') : spShare K C B [.ref x, a, c] (upd (upd H dx (.own x)) x (.ins C dx [])) Q E := by
  have s := made_same (C := C) (fs := []) nx ndx
  unfold spShare
  exact ⟨x, dx, a, c, rfl, upd_same, ha _ s, hc _ s, fun _ => k _ s, fun t b et eb hb => absurd ⟨t, b, et, eb, hb⟩ ng⟩
/-! ### Euclid's steps -/
/-- _law_common -/
@[irreducible] def spCommon : Sp := fun vs H Q _ => ∃ a b : Int, vs = [.int a, .int b] ∧ 0 ≤ b ∧ a.natAbs < 2 ^ 400 ∧ b.natAbs < 2 ^ 400 ∧ Q (.int ((Nat.gcd a.natAbs b.natAbs : Nat) : Int)) H
theorem common_ok {a b : Int} {H : Hp} {Q : VK} {E : XK} (h0 : 0 ≤ b) (h1 : a.natAbs < 2 ^ 400) (h2 : b.natAbs < 2 ^ 400) (k : Q (.int ((Nat.gcd a.natAbs b.natAbs : Nat) : Int)) H) : spCommon [.int a, .int b] H Q E := by
  unfold spCommon
  exact ⟨a, b, rfl, h0, h1, h2, k⟩
/-- between two turns -/
structure Euc (g : Nat) (i : Nat) (x y : Int) : Prop where
  x0 : 0 ≤ x
  y0 : 0 ≤ y
  gc : Nat.gcd x.natAbs y.natAbs = g
  sm : i = 0 ∧ x.natAbs < 2 ^ 400 ∧ y.natAbs < 2 ^ 400 ∨ ∃ j, i = j + 1 ∧ y < x ∧ x.natAbs * y.natAbs * 2 ^ j < 2 ^ 800
theorem Euc.step {g i : Nat} {x y : Int} (e : Euc g i x y) (h : y ≠ 0) : Euc g (i + 1) y (x % y) := by
  obtain ⟨x0, y0, gc, sm⟩ := e
  have yp : 0 < y := by omega
  have r0 : 0 ≤ x % y := Int.emod_nonneg _ h
  have r1 : x % y < y := Int.emod_lt_of_pos _ yp
  have en : (x % y).natAbs = x.natAbs % y.natAbs := by
    obtain ⟨m, rfl⟩ : ∃ m : Nat, x = m := ⟨x.toNat, by omega⟩
    obtain ⟨n, rfl⟩ : ∃ n : Nat, y = n := ⟨y.toNat, by omega⟩
    rw [← Int.natCast_emod]
    rfl
  refine ⟨y0, r0, ?_, .inr ⟨i, rfl, r1, ?_⟩⟩
  · rw [en, Nat.gcd_comm, ← Nat.gcd_rec, Nat.gcd_comm]
    exact gc
  · rw [en]
    rcases sm with ⟨rfl, hx, hy⟩ | ⟨j, rfl, hlt, hm⟩
    · rw [Nat.pow_zero, Nat.mul_one]
      have hr : x.natAbs % y.natAbs < 2 ^ 400 := Nat.lt_of_le_of_lt (Nat.mod_le _ _) hx
      calc y.natAbs * (x.natAbs % y.natAbs) < 2 ^ 400 * 2 ^ 400 := Nat.mul_lt_mul'' hy hr
        _ = 2 ^ 800 := by rw [← Nat.pow_add]
    · have hyn : 0 < y.natAbs := by omega
      have hle : y.natAbs ≤ x.natAbs := by omega
      have h2 : 2 * (x.natAbs % y.natAbs) ≤ x.natAbs := by
        have d1 := Nat.mod_add_div x.natAbs y.natAbs
        have d2 : 1 ≤ x.natAbs / y.natAbs := (Nat.one_le_div_iff hyn).mpr hle
        have d3 : y.natAbs * 1 ≤ y.natAbs * (x.natAbs / y.natAbs) := Nat.mul_le_mul_left _ d2
        have d4 := Nat.mod_lt x.natAbs hyn
        omega
      calc y.natAbs * (x.natAbs % y.natAbs) * 2 ^ (j + 1) = y.natAbs * (2 * (x.natAbs % y.natAbs)) * 2 ^ j := by
            rw [Nat.pow_succ]; simp only [Nat.mul_comm, Nat.mul_left_comm, Nat.mul_assoc]
        _ ≤ y.natAbs * x.natAbs * 2 ^ j := Nat.mul_le_mul_right _ (Nat.mul_le_mul_left _ h2)
        _ = x.natAbs * y.natAbs * 2 ^ j := by rw [Nat.mul_comm y.natAbs]
        _ < 2 ^ 800 := hm
theorem Euc.last {g : Nat} {x y : Int} (e : Euc g 2000 x y) : y = 0 := by
  obtain ⟨x0, y0, gc, sm⟩ := e
  rcases sm with ⟨h, _⟩ | ⟨j, hj, hlt, hm⟩
  · cases h
  · have ej : j = 1999 := by omega
    subst ej
    by_cases hy : y = 0
    · exact hy
    · exfalso
      have h1 : 1 ≤ x.natAbs * y.natAbs := Nat.mul_pos (by omega) (by omega)
      have h2 : 1 * 2 ^ 1999 ≤ x.natAbs * y.natAbs * 2 ^ 1999 := Nat.mul_le_mul_right _ h1
      have h3 : 2 ^ 800 ≤ 2 ^ 1999 := Nat.pow_le_pow_right (by decide) (by decide)
      omega
theorem Euc.done {g i : Nat} {x : Int} (e : Euc g i x 0) : x = (g : Int) := by
  obtain ⟨x0, _, gc, sm⟩ := e
  clear sm
  rw [show (0 : Int).natAbs = 0 from rfl, Nat.gcd_zero_right] at gc
  omega
/-- _law_is_share, of a Share -/
@[irreducible] def spIsShare (C : Addr) : Sp := fun vs H Q _ => ∃ (x : Addr) (t b p q : Int), vs = [.ref x, .int t, .int b] ∧ ShareAt C H x p q ∧ 1 ≤ q ∧ p * b = q * t ∧ Nat.gcd p.natAbs q.natAbs = 1 ∧
  p.natAbs < 2 ^ 400 ∧ q.natAbs < 2 ^ 400 ∧ t.natAbs < 2 ^ 400 ∧ b.natAbs < 2 ^ 400 ∧ Q (.bl true) H
theorem isShare_ok {C : Addr} {H : Hp} {Q : VK} {E : XK} {x : Addr} {t b u v : Int} (hv : v ≠ 0) (h : ShareAt C H x (shT u v) (shB u v)) (hc : shT u v * b = shB u v * t) (h1 : u.natAbs < 2 ^ 400) (h2 : v.natAbs < 2 ^ 400) (h3 : t.natAbs < 2 ^ 400) (h4 : b.natAbs < 2 ^ 400)
    (k : Q (.bl true) H) : spIsShare C [.ref x, .int t, .int b] H Q E := by
  unfold spIsShare
  exact ⟨x, t, b, _, _, rfl, h, shB_pos hv, hc, sh_cop hv, Nat.lt_of_le_of_lt (shT_le hv) h1, Nat.lt_of_le_of_lt (shB_le hv) h2, h3, h4, k⟩
theorem isShare_lit {C : Addr} {H : Hp} {Q : VK} {E : XK} {x : Addr} {t b p q : Int} (h : ShareAt C H x p q) (hq : 1 ≤ q) (hc : p * b = q * t) (hg : Nat.gcd p.natAbs q.natAbs = 1) (h1 : p.natAbs < 2 ^ 400) (h2 : q.natAbs < 2 ^ 400) (h3 : t.natAbs < 2 ^ 400) (h4 : b.natAbs < 2 ^ 400)
    (k : Q (.bl true) H) : spIsShare C [.ref x, .int t, .int b] H Q E := by
  unfold spIsShare
  exact ⟨x, t, b, p, q, rfl, h, hq, hc, hg, h1, h2, h3, h4, k⟩
/-- _law_refused -/
@[irreducible] def spRefused (K : PySem.W.Frag) : Sp := fun vs H Q _ => ∃ a c : V, vs = [a, c] ∧ (∀ H', Same H H' → Kd K H' a) ∧ (∀ H', Same H H' → Kd K H' c) ∧ ¬ good a c ∧ ∀ H', Same H H' → Q (.bl true) H'
theorem refused_ok {K : PySem.W.Frag} {a c : V} {H : Hp} {Q : VK} {E : XK} (ha : ∀ H', Same H H' → Kd K H' a) (hc : ∀ H', Same H H' → Kd K H' c) (ng : ¬ good a c) (k : ∀ H', Same H H' → Q (.bl true) H') : spRefused K [a, c] H Q E := by
  unfold spRefused
  exact ⟨a, c, rfl, ha, hc, ng, k⟩
end My
namespace My
open PySem L2 PySem.W Builtin
/-! ### operators of an own class -/
/-- int op instance: the int's own method declines -/
def Declines (op : Operator) : Prop := ∀ (prog : Program) (w : World) (A : Around) (E : Value → Shared → Prop) (s : Shared) (i : Int) (t : Tok) (x C dx : Addr) (Q : Option Value → Shared → Prop),
  s.heap.get? x = some (PySem.W.instObj C dx) → Q none s → wpAny (model prog w) A (tryMethod (.int i t) (PySem.dunder op.info.2) (.ref x)) Q E s
theorem int_add_inst (a : Int) (t : Tok) (x C dx : Addr) :
    Meets (Builtin.«int.__add__» ⟨[.int a t, .ref x], []⟩) (fun _ R s => s.heap.get? x = some (PySem.W.instObj C dx) ∧ R (.ok (.ret Value.notImplemented)) s) :=
  .of_wp fun prog w A R s h => by obtain ⟨hp, g, d, tk, os⟩ := s; obtain ⟨hl, h⟩ := h; wp_walk; exact ⟨_, rfl, h⟩
theorem int_sub_inst (a : Int) (t : Tok) (x C dx : Addr) :
    Meets (Builtin.«int.__sub__» ⟨[.int a t, .ref x], []⟩) (fun _ R s => s.heap.get? x = some (PySem.W.instObj C dx) ∧ R (.ok (.ret Value.notImplemented)) s) :=
  .of_wp fun prog w A R s h => by obtain ⟨hp, g, d, tk, os⟩ := s; obtain ⟨hl, h⟩ := h; wp_walk; exact ⟨_, rfl, h⟩
theorem int_mul_inst (a : Int) (t : Tok) (x C dx : Addr) :
    Meets (Builtin.«int.__mul__» ⟨[.int a t, .ref x], []⟩) (fun _ R s => s.heap.get? x = some (PySem.W.instObj C dx) ∧ R (.ok (.ret Value.notImplemented)) s) :=
  .of_wp fun prog w A R s h => by obtain ⟨hp, g, d, tk, os⟩ := s; obtain ⟨hl, h⟩ := h; wp_walk; exact ⟨_, rfl, h⟩
theorem dec_add : Declines .Add := by
  intro prog w A E s i t x C dx Q hx q
  have e : PySem.dunder Operator.Add.info.2 = PySem.dunder "add" := congrArg PySem.dunder (by decide +kernel)
  rw [e]
  have c : wpAny (model prog w) A (call (.builtin "int.__add__") [.int i t, .ref x]) (fun v s' => v = .notImplemented ∧ Q none s') E s :=
    call_meets F.slot_int_add (typeIs_int s i t) F.entry_int_add (F.args_int_add_2 _ _) (int_add_inst i t x C dx) ⟨hx, rfl, q⟩
  have h1 := @wpAny_tryMethod_declines (model prog w) A E s (.int i t) (.ref x) "int" (PySem.dunder "add") "int.__add__" Q (typeIs_int s i t)
  exact h1 F.slot_int_add c
theorem dec_sub : Declines .Sub := by
  intro prog w A E s i t x C dx Q hx q
  have e : PySem.dunder Operator.Sub.info.2 = PySem.dunder "sub" := congrArg PySem.dunder (by decide +kernel)
  rw [e]
  have c : wpAny (model prog w) A (call (.builtin "int.__sub__") [.int i t, .ref x]) (fun v s' => v = .notImplemented ∧ Q none s') E s :=
    call_meets F.slot_int_sub (typeIs_int s i t) F.entry_int_sub (F.args_int_sub_2 _ _) (int_sub_inst i t x C dx) ⟨hx, rfl, q⟩
  have h1 := @wpAny_tryMethod_declines (model prog w) A E s (.int i t) (.ref x) "int" (PySem.dunder "sub") "int.__sub__" Q (typeIs_int s i t)
  exact h1 F.slot_int_sub c
theorem dec_mul : Declines .Mult := by
  intro prog w A E s i t x C dx Q hx q
  have e : PySem.dunder Operator.Mult.info.2 = PySem.dunder "mul" := congrArg PySem.dunder (by decide +kernel)
  rw [e]
  have c : wpAny (model prog w) A (call (.builtin "int.__mul__") [.int i t, .ref x]) (fun v s' => v = .notImplemented ∧ Q none s') E s :=
    call_meets F.slot_int_mul (typeIs_int s i t) F.entry_int_mul (F.args_int_mul_2 _ _) (int_mul_inst i t x C dx) ⟨hx, rfl, q⟩
  have h1 := @wpAny_tryMethod_declines (model prog w) A E s (.int i t) (.ref x) "int" (PySem.dunder "mul") "int.__mul__" Q (typeIs_int s i t)
  exact h1 F.slot_int_mul c
/-- what K must know of the class at C for the operator: g its own method, r the reflected one -/
structure BinF (K : PySem.W.Frag) (C : Addr) (op : Operator) (g r : Addr) : Prop where
  sf : selfFirst K C = true
  hs : findIn K (.ref C) (PySem.dunder op.info.2) = some (some (.ref g))
  hf : isFn K (.ref g) = true
  hr : findIn K (.ref C) (dunderR op.info.2) = some (some (.ref r))
  rf : isFn K (.ref r) = true
  h1 : ∃ fo, findIn K (.type "int") (PySem.dunder op.info.2) = some fo
  h2 : ∃ ro, findIn K (.type "int") (dunderR op.info.2) = some ro
  su : subIn K (.type "int") (.ref C) = some false
  us : subIn K (.ref C) (.type "int") = some false
section
variable {prog : Program} {w : World} {A : Around} {E : Value → Shared → Prop} {s : Shared} {K : PySem.W.Frag} {x C L g r : Addr} {h₀ : Heap} {m : Str → Option Value} {dx : Addr} {od : Option Obj}
theorem bin_right {op : Operator} {i : Int} {t : Tok} {Q : Value → Shared → Prop} (X : K.In s.heap) (I : InstAt s.heap x (PySem.W.instObj C dx) C od) (B : BinF K C op g r) (de : Declines op) (fi : fillsNumberSlot (.type "int") op.info.2 = pure true)
    (h : wpAny (model prog w) A (call (.ref r) [.ref x, .int i t]) (CmpBack Q) E s) : wpAny (model prog w) A (binaryOp op (.int i t) (.ref x)) Q E s := by
  obtain ⟨cd, rest, hcd, hm⟩ := ksp_first B.sf
  have hs := B.hs
  have hr := B.hr
  have de' := de prog w A E s i t x C dx
  rcases hi : op.info with ⟨sym, nm'⟩
  rw [hi] at hs hr fi de'
  dsimp only at hs hr fi de'
  have one := ksp_try X I hr B.rf h
  have ho : s.heap.get? x = some (PySem.W.instObj C dx) := I.1
  obtain ⟨hh, g', d, tt, os⟩ := s
  have L1 : Looks (model prog w) hh (typeOf (.int i t)) (.type "int") := Looks.of_pure rfl
  have L2 : Looks (model prog w) hh (typeOf (.ref x)) (.ref C) := I.type
  have L3 : Looks (model prog w) hh (fillsNumberSlot (.type "int") nm') true := Looks.of_pure fi
  have L4 : Looks (model prog w) hh (fillsNumberSlot (.ref C) nm') true := fills_K X hcd hm hs
  have L5 : Looks (model prog w) hh (isSubtype (.ref C) (.type "int")) false := looks_subIn X B.us
  have L7 : Looks (model prog w) hh (numberSlotInPython (.type "int") nm') false := Looks.of_pure rfl
  have hne : (Value.type "int" == Value.ref C) = false := Bool.eq_false_iff.mpr fun q => by cases beq_iff_eq.mp q
  simp only [binaryOp, hi]
  refine wpAny_holding (wpAny_bind ?_)
  unfold binaryOp1
  refine wpAny_bind (L1.at (wpAny_bind (L2.at (wpAny_bind (L3.at ?_)))))
  simp only [hne, Bool.false_eq_true, if_false]
  ksp_lk
  refine de' _ ho ?_
  ksp_lk
  refine wpAny_mono one (fun y s' hy => ?_) fun _ _ e => e
  obtain ⟨v, rfl, hq⟩ := hy
  ksp_lk
  exact hq
end
section
variable {X : Cx} {C g r : Addr} {op : Operator} {CX : CXT} {k : Nat} {fd : FuncData} {ps : List Str} {sp : Sp} {E : XK}
/-- o op y, y of the same class or an int -/
def rBinS (C : Addr) (sp : Sp) (E : XK) : R2 := fun x y H Q => ∃ a dx fs, x = .ref a ∧ H a = some (.ins C dx fs) ∧ ((∃ b dy gs, y = .ref b ∧ H b = some (.ins C dy gs)) ∨ ∃ i, y = .int i) ∧ sp [x, y] H Q E
def rBinR (C : Addr) (sp : Sp) (E : XK) : R2 := fun x y H Q => ∃ i b dy gs, x = .int i ∧ y = .ref b ∧ H b = some (.ins C dy gs) ∧ sp [y, x] H Q E
theorem back_of {Q : Value → Shared → Prop} {v : V} {u : Value} {s : Shared} (r : RelV v u) (q : Q u s) : CmpBack Q u s := by
  cases v with
  | non => cases (show u = _ from r); exact q
  | bl b => cases (show u = _ from r); exact q
  | int i => obtain ⟨t, e⟩ := (show ∃ t, u = Value.int i t from r); cases e; exact q
  | str i => obtain ⟨t, e⟩ := (show ∃ t, u = Value.str i t from r); cases e; exact q
  | byt i => obtain ⟨t, e⟩ := (show ∃ t, u = Value.bytes i t from r); cases e; exact q
  | flt i => obtain ⟨t, e⟩ := (show ∃ t, u = Value.float i t from r); cases e; exact q
  | ref a => cases (show u = _ from r); exact q
  | ty n => cases (show u = _ from r); exact q
theorem op_binS (B : BinF X.K C op g r) (F : FnOk X.prog X.w X.K X.mg X.base CX k g fd ps sp) (hr : Room k X.A) (hb : Binds X.K fd ps []) (hx : Passes CX X E) : OpR X (binaryOp op) (rBinS C sp E) := by
  intro pins s σ H x y v u Q I rx ry h
  obtain ⟨a, dx, fs, rfl, ha, hy, q⟩ := h
  cases (show v = Value.ref a from rx)
  obtain ⟨mA, O, _⟩ := ins_get I.hok ha
  obtain ⟨od, J, _⟩ := O.look
  obtain ⟨m, hF⟩ := I.fr
  have run : wpAny (model X.prog X.w) X.A (call (.ref g) [.ref a, u]) (CmpBack (EP X pins σ Q)) X.xe s := by
    refine wpAny_mono (run_fn (us := [.ref a, u]) (vs := [.ref a, y]) F hr hb .nil hx I (.cons rfl (.cons ry .nil)) q) (fun w s' z => ?_) fun _ _ e => e
    obtain ⟨z', H', I', rz, qz⟩ := z
    exact back_of rz ⟨z', H', I', rz, qz⟩
  rcases hy with ⟨b, dy, gs, rfl, hb'⟩ | ⟨i, rfl⟩
  · cases (show u = Value.ref b from ry)
    obtain ⟨mB, O2, _⟩ := ins_get I.hok hb'
    obtain ⟨ob, J2, _⟩ := O2.look
    exact binop_K hF I.ok.mod.kin J J2.type B.sf B.hs B.hf run
  · obtain ⟨t, e⟩ := (show ∃ t, u = Value.int i t from ry)
    cases e
    obtain ⟨fo, h1⟩ := B.h1
    obtain ⟨ro, h2⟩ := B.h2
    exact ksp_binT hF I.ok.mod.kin J rfl B.sf B.hs B.hf B.hr (.inr ⟨_, rfl⟩) h1 h2 B.su run
theorem op_binR (B : BinF X.K C op g r) (de : Declines op) (fi : fillsNumberSlot (.type "int") op.info.2 = pure true) (F : FnOk X.prog X.w X.K X.mg X.base CX k r fd ps sp) (hr : Room k X.A) (hb : Binds X.K fd ps []) (hx : Passes CX X E) : OpR X (binaryOp op) (rBinR C sp E) := by
  intro pins s σ H x y v u Q I rx ry h
  obtain ⟨i, b, dy, gs, rfl, rfl, hb', q⟩ := h
  cases (show u = Value.ref b from ry)
  obtain ⟨t, e⟩ := (show ∃ t, v = Value.int i t from rx)
  cases e
  obtain ⟨mB, O2, _⟩ := ins_get I.hok hb'
  obtain ⟨ob, J2, _⟩ := O2.look
  refine bin_right I.kIn J2 B de fi ?_
  refine wpAny_mono (run_fn (us := [.ref b, .int i t]) (vs := [.ref b, .int i]) F hr hb .nil hx I (.cons rfl (.cons ⟨t, rfl⟩ .nil)) q) (fun w s' z => ?_) fun _ _ e => e
  obtain ⟨z', H', I', rz, qz⟩ := z
  exact back_of rz ⟨z', H', I', rz, qz⟩
/-- -o -/
def rNegS (C : Addr) (sp : Sp) (E : XK) : V → Hp → VK → Prop := fun x H Q => ∃ a dx fs, x = .ref a ∧ H a = some (.ins C dx fs) ∧ sp [x] H Q E
theorem un_negS (hs : findIn X.K (.ref C) "__neg__" = some (some (.ref g))) (hf : isFn X.K (.ref g) = true) (F : FnOk X.prog X.w X.K X.mg X.base CX k g fd ps sp) (hr : Room k X.A) (hb : Binds X.K fd ps []) (hx : Passes CX X E) : UnR X (unaryOp .USub) (rNegS C sp E) := by
  intro pins s σ H x v Q I rx h
  obtain ⟨a, dx, fs, rfl, ha, q⟩ := h
  cases (show v = Value.ref a from rx)
  obtain ⟨mA, O, _⟩ := ins_get I.hok ha
  obtain ⟨od, J, _⟩ := O.look
  obtain ⟨m, hF⟩ := I.fr
  refine ksp_neg hF I.ok.mod.kin J hs hf ?_
  exact run_fn (us := [.ref a]) (vs := [.ref a]) F hr hb .nil hx I (.cons rfl .nil) q
end
end My
namespace My
open PySem L2
/-! ### numbers: ints and Shares -/
/-- x is the int p (then q is 1), or a Share p / q -/
def NumAt (C : Addr) (H : Hp) (x : V) (p q : Int) : Prop := (x = .int p ∧ q = 1) ∨ ∃ a, x = .ref a ∧ ShareAt C H a p q
theorem NumAt.same {C : Addr} {H H' : Hp} {x : V} {p q : Int} (h : NumAt C H x p q) (s : Same H H') : NumAt C H' x p q := by
  rcases h with h | ⟨a, e, h⟩
  · exact .inl h
  · exact .inr ⟨a, e, h.same s⟩
theorem NumAt.but {C r : Addr} {H H' : Hp} {x : V} {p q : Int} (h : NumAt C H x p q) (s : But r H H') (n : x ≠ .ref r) : NumAt C H' x p q := by
  rcases h with h | ⟨a, e, h⟩
  · exact .inl h
  · exact .inr ⟨a, e, h.but s fun z => n (by rw [e, z])⟩
theorem NumAt.int (C : Addr) (H : Hp) (i : Int) : NumAt C H (.int i) i 1 := .inl ⟨rfl, rfl⟩
theorem ShareAt.num {C : Addr} {H : Hp} {a : Addr} {p q : Int} (h : ShareAt C H a p q) : NumAt C H (.ref a) p q := .inr ⟨a, rfl, h⟩
theorem shT_one (p : Int) : shT p 1 = p := by
  have h := sh_cross (t := p) (b := 1) (by decide)
  have h1 : shB p 1 = 1 := by
    have a := shB_pos (t := p) (b := 1) (by decide)
    have b := shB_le (t := p) (b := 1) (by decide)
    rw [show (1 : Int).natAbs = 1 from rfl] at b
    omega
  rw [h1] at h
  omega
theorem shB_one (p : Int) : shB p 1 = 1 := by
  have a := shB_pos (t := p) (b := 1) (by decide)
  have b := shB_le (t := p) (b := 1) (by decide)
  rw [show (1 : Int).natAbs = 1 from rfl] at b
  omega
/-- a fraction in lowest terms is left as it is -/
theorem sh_self {p q : Int} (hq : 1 ≤ q) (hc : Nat.gcd p.natAbs q.natAbs = 1) : shT p q = p ∧ shB p q = q := by
  have h0 : q ≠ 0 := by omega
  exact cop_unique (shB_pos h0) hq (sh_cop h0) hc (by rw [sh_cross h0, Int.mul_comm])
/-- is_number, of a number -/
@[irreducible] def spIsNum (C : Addr) : Sp := fun vs H Q _ => ∃ (x : V) (p q : Int), vs = [x] ∧ NumAt C H x p q ∧ Q (.bl true) H
theorem isNum_ok {C : Addr} {H : Hp} {Q : VK} {E : XK} {x : V} {p q : Int} (h : NumAt C H x p q) (k : Q (.bl true) H) : spIsNum C [x] H Q E := by
  unfold spIsNum
  exact ⟨x, p, q, rfl, h, k⟩
/-- as_share -/
@[irreducible] def spAs (C : Addr) : Sp := fun vs H Q _ => ∃ (x : V) (p q : Int), vs = [x] ∧ NumAt C H x p q ∧ p.natAbs < 2 ^ 4000 ∧ ∀ a H', ShareAt C H' a p q → Same H H' → Q (.ref a) H'
theorem as_ok {C : Addr} {H : Hp} {Q : VK} {E : XK} {x : V} {p q : Int} (h : NumAt C H x p q) (hp : p.natAbs < 2 ^ 4000) (k : ∀ a H', ShareAt C H' a p q → Same H H' → Q (.ref a) H') : spAs C [x] H Q E := by
  unfold spAs
  exact ⟨x, p, q, rfl, h, hp, k⟩
/-- an operator of a Share and a number: f the top, the bottom is the product -/
@[irreducible] def spBin (C : Addr) (f : Int → Int → Int → Int → Int) : Sp := fun vs H Q _ => ∃ (a : Addr) (y : V) (p q r s : Int), vs = [.ref a, y] ∧ ShareAt C H a p q ∧ NumAt C H y r s ∧ 1 ≤ q ∧ 1 ≤ s ∧
  p.natAbs < 2 ^ 1900 ∧ q.natAbs < 2 ^ 1900 ∧ r.natAbs < 2 ^ 1900 ∧ s.natAbs < 2 ^ 1900 ∧
  ∀ z H', ShareAt C H' z (shT (f p q r s) (q * s)) (shB (f p q r s) (q * s)) → Same H H' → Q (.ref z) H'
theorem bin_ok {C : Addr} {f : Int → Int → Int → Int → Int} {H : Hp} {Q : VK} {E : XK} {a : Addr} {y : V} {p q r s : Int} (h : ShareAt C H a p q) (h' : NumAt C H y r s) (hq : 1 ≤ q) (hs : 1 ≤ s)
    (b1 : p.natAbs < 2 ^ 1900) (b2 : q.natAbs < 2 ^ 1900) (b3 : r.natAbs < 2 ^ 1900) (b4 : s.natAbs < 2 ^ 1900)
    (k : ∀ z H', ShareAt C H' z (shT (f p q r s) (q * s)) (shB (f p q r s) (q * s)) → Same H H' → Q (.ref z) H') : spBin C f [.ref a, y] H Q E := by
  unfold spBin
  exact ⟨a, y, p, q, r, s, rfl, h, h', hq, hs, b1, b2, b3, b4, k⟩
abbrev fAdd : Int → Int → Int → Int → Int := fun p q r s => p * s + r * q
abbrev fSub : Int → Int → Int → Int → Int := fun p q r s => p * s - r * q
abbrev fMul : Int → Int → Int → Int → Int := fun p _ r _ => p * r
/-- the reflected ones -/
@[irreducible] def spBinR (C : Addr) (f : Int → Int → Int → Int → Int) : Sp := fun vs H Q _ => ∃ (a : Addr) (p q i : Int), vs = [.ref a, .int i] ∧ ShareAt C H a p q ∧ 1 ≤ q ∧
  p.natAbs < 2 ^ 1900 ∧ q.natAbs < 2 ^ 1900 ∧ i.natAbs < 2 ^ 1900 ∧
  ∀ z H', ShareAt C H' z (shT (f i 1 p q) (1 * q)) (shB (f i 1 p q) (1 * q)) → Same H H' → Q (.ref z) H'
theorem binR_ok {C : Addr} {f : Int → Int → Int → Int → Int} {H : Hp} {Q : VK} {E : XK} {a : Addr} {p q i : Int} (h : ShareAt C H a p q) (hq : 1 ≤ q) (b1 : p.natAbs < 2 ^ 1900) (b2 : q.natAbs < 2 ^ 1900) (b3 : i.natAbs < 2 ^ 1900)
    (k : ∀ z H', ShareAt C H' z (shT (f i 1 p q) (1 * q)) (shB (f i 1 p q) (1 * q)) → Same H H' → Q (.ref z) H') : spBinR C f [.ref a, .int i] H Q E := by
  unfold spBinR
  exact ⟨a, p, q, i, rfl, h, hq, b1, b2, b3, k⟩
/-- -share -/
@[irreducible] def spNeg (C : Addr) : Sp := fun vs H Q _ => ∃ (a : Addr) (p q : Int), vs = [.ref a] ∧ ShareAt C H a p q ∧ 1 ≤ q ∧ p.natAbs < 2 ^ 1900 ∧ q.natAbs < 2 ^ 1900 ∧
  ∀ z H', ShareAt C H' z (shT (-p) q) (shB (-p) q) → Same H H' → Q (.ref z) H'
theorem neg_ok {C : Addr} {H : Hp} {Q : VK} {E : XK} {a : Addr} {p q : Int} (h : ShareAt C H a p q) (hq : 1 ≤ q) (b1 : p.natAbs < 2 ^ 1900) (b2 : q.natAbs < 2 ^ 1900)
    (k : ∀ z H', ShareAt C H' z (shT (-p) q) (shB (-p) q) → Same H H' → Q (.ref z) H') : spNeg C [.ref a] H Q E := by
  unfold spNeg
  exact ⟨a, p, q, rfl, h, hq, b1, b2, k⟩
theorem pos_mul {q s : Int} (hq : 1 ≤ q) (hs : 1 ≤ s) : 1 ≤ q * s := by
  have := Int.mul_pos (show 0 < q by omega) (show 0 < s by omega)
  omega
theorem add_lt {x y : Int} {n : Nat} (hx : x.natAbs < 2 ^ n) (hy : y.natAbs < 2 ^ n) : (x + y).natAbs < 2 ^ (n + 1) := by
  rw [Nat.pow_succ]
  omega
theorem sub_lt {x y : Int} {n : Nat} (hx : x.natAbs < 2 ^ n) (hy : y.natAbs < 2 ^ n) : (x - y).natAbs < 2 ^ (n + 1) := by
  rw [Nat.pow_succ]
  omega
theorem pow_lift {z : Int} {a b : Nat} (h : z.natAbs < 2 ^ a) (hab : a ≤ b) : z.natAbs < 2 ^ b := Nat.lt_of_lt_of_le h (Nat.pow_le_pow_right (by decide) hab)
/-- p / q in lowest terms of u / v, and u / v is x / w: then p / q is x / w -/
theorem cross_of {u v x w : Int} (hv : v ≠ 0) (h : u * w = v * x) : shT u v * w = shB u v * x := by
  have h1 := sh_cross (t := u) hv
  have e : (shT u v * w) * v = (shB u v * x) * v := by grind
  exact Int.eq_of_mul_eq_mul_right hv e
end My
namespace My
open PySem L2 PySem.W
section
variable {X : Cx} {C g : Addr} {CX : CXT} {k : Nat} {fd : FuncData} {ps : List Str} {sp : Sp} {E : XK}
/-- o == y by the class's own __eq__; y's type is t, not a class below C -/
def rEqS (K : PySem.W.Frag) (C : Addr) (sp : Sp) (E : XK) : R2 := fun x y H Q => ∃ a dx fs t, x = .ref a ∧ H a = some (.ins C dx fs) ∧ TyX K H y t ∧ PySem.W.notFirst K C t = true ∧ sp [x, y] H Q E
theorem op_eqS (hs : findIn X.K (.ref C) "__eq__" = some (some (.ref g))) (hf : isFn X.K (.ref g) = true) (F : FnOk X.prog X.w X.K X.mg X.base CX k g fd ps sp) (hr : Room k X.A) (hb : Binds X.K fd ps []) (hx : Passes CX X E)
    (hty : ∀ {pins : List (Addr × Obj)} {σ : L2.St} {H : Hp} {s : Shared} {y : V} {u t : Value}, Inv X pins σ H s → RelV y u → TyX X.K H y t → Looks (model X.prog X.w) s.heap (typeOf u) t) : OpR X (compareOp .Eq) (rEqS X.K C sp E) := by
  intro pins s σ H x y v u Q I rx ry h
  obtain ⟨a, dx, fs, t, rfl, ha, hy, hn, q⟩ := h
  cases (show v = Value.ref a from rx)
  obtain ⟨mA, O, _⟩ := ins_get I.hok ha
  obtain ⟨od, J, _⟩ := O.look
  obtain ⟨m, hF⟩ := I.fr
  show wpAny _ _ (richCompare .Eq (.ref a) u) _ _ _
  refine PySem.W.cmp_K (op := .Eq) (tb := t) hr.units0 hF I.ok.mod.kin J (hty I ry hy) hn hs hf ?_
  refine wpAny_mono (run_fn (us := [.ref a, u]) (vs := [.ref a, y]) F hr hb .nil hx I (.cons rfl (.cons ry .nil)) q) (fun w s' z => ?_) fun _ _ e => e
  obtain ⟨z', H', I', rz, qz⟩ := z
  exact back_of rz ⟨z', H', I', rz, qz⟩
end
/-- the type of a value, looked up -/
theorem ty_looks {X : Cx} {pins : List (Addr × Obj)} {σ : L2.St} {H : Hp} {s : Shared} {y : V} {u t : Value} (I : Inv X pins σ H s) (r : RelV y u) (h : TyX X.K H y t) : Looks (model X.prog X.w) s.heap (typeOf u) t := by
  have ref : ∀ {a : Addr} {o : Obj} {c : Value}, s.heap.get? a = some o → o.cls = c → Looks (model X.prog X.w) s.heap (typeOf (.ref a)) c := fun {a o c} e hc => by
    subst hc
    exact fun A Q E s' kp q => wpAny_typeOf_ref (kp _ _ e) q
  cases h with
  | base b =>
    cases b with
    | non => cases (show u = _ from r); exact Looks.of_pure rfl
    | bl y => cases (show u = _ from r); exact Looks.of_pure rfl
    | int i => obtain ⟨t, e⟩ := (show ∃ t, u = Value.int i t from r); cases e; exact Looks.of_pure rfl
    | str y => obtain ⟨t, e⟩ := (show ∃ t, u = Value.str y t from r); cases e; exact Looks.of_pure rfl
    | flt y => obtain ⟨t, e⟩ := (show ∃ t, u = Value.float y t from r); cases e; exact Looks.of_pure rfl
    | @lst a xs e =>
      cases (show u = Value.ref a from r)
      obtain ⟨_, _, n, _, h1⟩ := (show ObjOk X.prog X.w H s.heap a (.lst xs) from I.hok a _ e)
      exact ref h1 rfl
    | @frz a ob xs e =>
      cases (show u = Value.ref a from r)
      obtain ⟨_, _, _, n, _, h1⟩ := (show ObjOk X.prog X.w H s.heap a (.frz ob (.lst xs)) from I.hok a _ e)
      exact ref h1 rfl
    | @tup a xs e =>
      cases (show u = Value.ref a from r)
      obtain ⟨_, _, _, o, h1, h2, _⟩ := (show ObjOk X.prog X.w H s.heap a (.tup xs) from I.hok a _ e)
      exact ref h1 h2
    | @dK a kvs e =>
      cases (show u = Value.ref a from r)
      obtain ⟨_, _, vs, _, o, es, ep, h1, h2, _⟩ := (show ObjOk X.prog X.w H s.heap a (.dK kvs) from I.hok a _ e)
      exact ref h1 h2.1
    | @dT a kvs e =>
      cases (show u = Value.ref a from r)
      obtain ⟨_, _, xs, _, o, es, ep, h1, h2, _⟩ := (show ObjOk X.prog X.w H s.heap a (.dT kvs) from I.hok a _ e)
      exact ref h1 h2.1
    | @ins a C dx fs e cl ha hn htk hm =>
      cases (show u = Value.ref a from r)
      obtain ⟨mA, O, _⟩ := ins_get I.hok e
      exact ref O.obj rfl
  | byt b => obtain ⟨t, e⟩ := (show ∃ t, u = Value.bytes b t from r); cases e; exact Looks.of_pure rfl
  | @set a S n e =>
    cases (show u = Value.ref a from r)
    obtain ⟨o, _, _, _, h1, ex, _⟩ := I.hok a _ e
    exact ref h1 ex.1
  | @kList a o e c => cases (show u = Value.ref a from r); exact ref (I.kIn a o e) c
  | @kTuple a o e c => cases (show u = Value.ref a from r); exact ref (I.kIn a o e) c
  | @kDict a o e c => cases (show u = Value.ref a from r); exact ref (I.kIn a o e) c
  | @fTuple a ob xs e =>
    cases (show u = Value.ref a from r)
    obtain ⟨_, _, _, _, o, h1, h2, _⟩ := (show ObjOk X.prog X.w H s.heap a (.frz ob (.tup xs)) from I.hok a _ e)
    exact ref h1 h2
  | @fDict a ob kvs e =>
    cases (show u = Value.ref a from r)
    obtain ⟨_, _, _, vs, _, o, es, ep, h1, h2, _⟩ := (show ObjOk X.prog X.w H s.heap a (.frz ob (.dK kvs)) from I.hok a _ e)
    exact ref h1 h2.1
end My
namespace My
open PySem L2
/-- Share.__eq__: with a number, or with a thing that is none -/
@[irreducible] def spEq (K : PySem.W.Frag) (C : Addr) : Sp := fun vs H Q _ => ∃ (a : Addr) (y : V) (p q : Int), vs = [.ref a, y] ∧ ShareAt C H a p q ∧
  ((∃ r s, NumAt C H y r s ∧ ∀ b : Bool, (b = true ↔ p = r ∧ q = s) → Q (.bl b) H) ∨ (isI y = false ∧ Kd K H y ∧ (∃ t, TyX K H y t ∧ PySem.W.kitOne K t (.ref C) = some false) ∧ Q (.bl false) H))
theorem eqN_ok {K : PySem.W.Frag} {C : Addr} {H : Hp} {Q : VK} {E : XK} {a : Addr} {y : V} {p q r s : Int} (h : ShareAt C H a p q) (hy : NumAt C H y r s) (k : ∀ b : Bool, (b = true ↔ p = r ∧ q = s) → Q (.bl b) H) : spEq K C [.ref a, y] H Q E := by
  unfold spEq
  exact ⟨a, y, p, q, rfl, h, .inl ⟨r, s, hy, k⟩⟩
theorem eqO_ok {K : PySem.W.Frag} {C : Addr} {H : Hp} {Q : VK} {E : XK} {a : Addr} {y : V} {p q : Int} {t : Value} (h : ShareAt C H a p q) (hI : isI y = false) (hk : Kd K H y) (ht : TyX K H y t) (hn : PySem.W.kitOne K t (.ref C) = some false) (k : Q (.bl false) H) : spEq K C [.ref a, y] H Q E := by
  unfold spEq
  exact ⟨a, y, p, q, rfl, h, .inr ⟨hI, hk, ⟨t, ht, hn⟩, k⟩⟩
end My
namespace My
open PySem L2
/-! ### sums of fractions -/
def prB : List (Int × Int) → Int
  | [] => 1
  | x :: l => x.2 * prB l
def smT : List (Int × Int) → Int
  | [] => 0
  | x :: l => x.1 * prB l + smT l * x.2
theorem prB_app : ∀ l m : List (Int × Int), prB (l ++ m) = prB l * prB m
  | [], m => by simp [prB]
  | x :: l, m => by
    show x.2 * prB (l ++ m) = x.2 * prB l * prB m
    rw [prB_app l m]; grind
theorem smT_app : ∀ l m : List (Int × Int), smT (l ++ m) = smT l * prB m + smT m * prB l
  | [], m => by simp [smT, prB]
  | x :: l, m => by
    show x.1 * prB (l ++ m) + smT (l ++ m) * x.2 = (x.1 * prB l + smT l * x.2) * prB m + smT m * (x.2 * prB l)
    rw [prB_app l m, smT_app l m]; grind
theorem prB_one (x : Int × Int) : prB [x] = x.2 := by simp [prB]
theorem smT_one (x : Int × Int) : smT [x] = x.1 := by simp [smT, prB]
theorem prB_rev : ∀ l : List (Int × Int), prB l.reverse = prB l
  | [] => rfl
  | x :: l => by
    rw [List.reverse_cons, prB_app, prB_rev l, prB_one]
    show _ = x.2 * prB l
    grind
theorem smT_rev : ∀ l : List (Int × Int), smT l.reverse = smT l
  | [] => rfl
  | x :: l => by
    rw [List.reverse_cons, smT_app, smT_rev l, prB_rev l, prB_one, smT_one]
    show _ = x.1 * prB l + smT l * x.2
    grind
/-- an item of the list: the fraction a / b -/
structure Itm (C p : Addr) (H : Hp) (x : V) (ab : Int × Int) : Prop where
  num : NumAt C H x (shT ab.1 ab.2) (shB ab.1 ab.2)
  ne : x ≠ .ref p
  b1 : 1 ≤ ab.2
  b2 : ab.2 ≤ 30
  a1 : ab.1.natAbs < 100000000000000
theorem Itm.same {C p : Addr} {H H' : Hp} {x : V} {ab : Int × Int} (h : Itm C p H x ab) (s : Same H H') : Itm C p H' x ab := ⟨h.num.same s, h.ne, h.b1, h.b2, h.a1⟩
theorem Itm.but {C p : Addr} {H H' : Hp} {x : V} {ab : Int × Int} (h : Itm C p H x ab) (s : But p H H') : Itm C p H' x ab := ⟨h.num.but s h.ne, h.ne, h.b1, h.b2, h.a1⟩
/-- a list's own change leaves the items -/
theorem Itm.upd {C p l : Addr} {H : Hp} {x : V} {ab : Int × Int} {xs ys : List V} (h : Itm C p H x ab) (hl : H l = some (.lst xs)) : Itm C p (L2.upd H l (.lst ys)) x ab := by
  refine ⟨?_, h.ne, h.b1, h.b2, h.a1⟩
  rcases h.num with e | ⟨a, e, dx, hx⟩
  · exact .inl e
  · refine .inr ⟨a, e, dx, ?_⟩
    rw [upd_ne (ne_of hx hl (by intro z; cases z))]
    exact hx
theorem paired_get {α β : Type} {F : α → β → Prop} : ∀ {xs : List α} {ys : List β} {i : Nat} {x : α}, Paired F xs ys → xs[i]? = some x → ∃ y, ys[i]? = some y ∧ F x y
  | _, _, _, _, .nil, e => by simp at e
  | _, _, 0, _, .cons r _, e => by simp at e; subst e; exact ⟨_, rfl, r⟩
  | _, _, i + 1, x, .cons _ t, e => by
    obtain ⟨y, h1, h2⟩ := paired_get (i := i) (x := x) t (by simpa using e)
    exact ⟨y, by simpa using h1, h2⟩
theorem paired_rev {α β : Type} {F : α → β → Prop} : ∀ {xs : List α} {ys : List β}, Paired F xs ys → Paired F xs.reverse ys.reverse
  | _, _, .nil => .nil
  | _, _, .cons r t => by
    rw [List.reverse_cons, List.reverse_cons]
    exact (paired_rev t).snoc r
theorem take_snoc {α : Type} {l : List α} {i : Nat} {x : α} (h : l[i]? = some x) : l.take (i + 1) = l.take i ++ [x] := by
  rw [List.take_add_one, h]
  rfl
/-- what is known of a running sum t / b of the first i items -/
structure Run (its : List (Int × Int)) (i : Nat) (t b : Int) : Prop where
  pos : 1 ≤ b
  cop : Nat.gcd t.natAbs b.natAbs = 1
  val : t * prB (its.take i) = b * smT (its.take i)
  tb : t.natAbs < 2 ^ (50 + 6 * i)
  bb : b.natAbs < 2 ^ (5 * i + 1)
theorem Run.zero (its : List (Int × Int)) : Run its 0 0 1 := ⟨by decide, by decide, by simp [prB, smT], by decide, by decide⟩
theorem Run.step {its : List (Int × Int)} {i : Nat} {t b : Int} {x : Int × Int} (r : Run its i t b) (hx : its[i]? = some x) (h1 : 1 ≤ x.2) (h2 : x.2 ≤ 30) (h3 : x.1.natAbs < 100000000000000) :
    Run its (i + 1) (shT (t * shB x.1 x.2 + shT x.1 x.2 * b) (b * shB x.1 x.2)) (shB (t * shB x.1 x.2 + shT x.1 x.2 * b) (b * shB x.1 x.2)) := by
  have x0 : x.2 ≠ 0 := by omega
  have hc := sh_cross (t := x.1) x0
  have hq := shB_pos (t := x.1) x0
  have bT := shT_le (t := x.1) x0
  have bB := shB_le (t := x.1) x0
  generalize shT x.1 x.2 = p at *
  generalize shB x.1 x.2 = q at *
  have hv := pos_mul r.pos hq
  have v0 : b * q ≠ 0 := by omega
  have hp50 : p.natAbs < 2 ^ 47 := Nat.lt_of_le_of_lt bT (Nat.lt_of_lt_of_le h3 (by decide))
  have hx30 : x.2.natAbs ≤ 30 := by omega
  have hq5 : q.natAbs < 2 ^ 5 := Nat.lt_of_le_of_lt bB (Nat.lt_of_le_of_lt hx30 (by decide))
  refine ⟨shB_pos v0, sh_cop v0, ?_, ?_, ?_⟩
  · rw [take_snoc hx, prB_app, smT_app, prB_one, smT_one]
    refine cross_of v0 ?_
    have e1 := r.val
    generalize prB (its.take i) = B at *
    generalize smT (its.take i) = S at *
    grind
  · refine Nat.lt_of_le_of_lt (shT_le v0) ?_
    have a1 := pow_lift (wide_lt r.tb hq5) (show 50 + 6 * i + 5 ≤ 50 + 6 * i + 5 from Nat.le_refl _)
    have a2 := pow_lift (wide_lt hp50 r.bb) (show 47 + (5 * i + 1) ≤ 50 + 6 * i + 5 by omega)
    exact pow_lift (add_lt a1 a2) (by omega)
  · refine Nat.lt_of_le_of_lt (shB_le v0) ?_
    exact pow_lift (wide_lt r.bb hq5) (by omega)
theorem shB_nat_one {n : Int} (hn : 1 ≤ n) : shT 1 n = 1 ∧ shB 1 n = n := sh_self hn (by show Nat.gcd 1 _ = 1; exact Nat.gcd_one_left _)
/-- mean -/
@[irreducible] def spMean (K : PySem.W.Frag) (C B : Addr) : Sp := fun vs H Q E => ∃ (l p : Addr) (xs : List V) (its : List (Int × Int)), vs = [.ref l] ∧ SqL K H l xs ∧ Paired (Itm C p H) xs its ∧ xs.length ≤ 8 ∧
  (xs = [] → E (.ref B) none H) ∧
  (xs ≠ [] → ∀ z H' u v, ShareAt C H' z (shT u v) (shB u v) → 1 ≤ v → u * (prB its * xs.length) = v * smT its → u.natAbs < 2 ^ 200 → v.natAbs < 2 ^ 200 → Same H H' → Q (.ref z) H')
theorem mean_ok {K : PySem.W.Frag} {C B : Addr} {H : Hp} {Q : VK} {E : XK} {l p : Addr} {xs : List V} {its : List (Int × Int)} (hl : SqL K H l xs) (hI : Paired (Itm C p H) xs its) (h8 : xs.length ≤ 8) (h0 : xs ≠ [])
    (k : ∀ z H' u v, ShareAt C H' z (shT u v) (shB u v) → 1 ≤ v → u * (prB its * xs.length) = v * smT its → u.natAbs < 2 ^ 200 → v.natAbs < 2 ^ 200 → Same H H' → Q (.ref z) H') : spMean K C B [.ref l] H Q E := by
  unfold spMean
  exact ⟨l, p, xs, its, rfl, hl, hI, h8, fun z => absurd z h0, fun _ => k⟩
theorem mean_bad {K : PySem.W.Frag} {C B : Addr} {H : Hp} {Q : VK} {E : XK} {l p : Addr} (hl : SqL K H l []) (k : E (.ref B) none H) : spMean K C B [.ref l] H Q E := by
  unfold spMean
  exact ⟨l, p, [], [], rfl, hl, .nil, by decide, fun _ => k, fun z => absurd rfl z⟩
end My
namespace My
open PySem L2
def top (i : Nat) : Stmt := PySem.Challenge.pw_seatatonce_k04_share_mean.main.body.getD i (.Pass ⟨0, 0, 0, 0⟩)
abbrev s_is_whole : Stmt := top 5
abbrev s_Share___init__ : Stmt := inClass (top 6) 0
abbrev s_Share___eq__ : Stmt := inClass (top 6) 1
abbrev s_Share___add__ : Stmt := inClass (top 6) 3
abbrev s_Share___radd__ : Stmt := inClass (top 6) 4
abbrev s_Share___mul__ : Stmt := inClass (top 6) 7
abbrev s_Share___rmul__ : Stmt := inClass (top 6) 8
abbrev s_is_number : Stmt := top 7
abbrev s_as_share : Stmt := top 8
abbrev s_mean : Stmt := top 9
abbrev s__law_pool : Stmt := top 11
abbrev s__law_draw : Stmt := top 12
abbrev s__law_number : Stmt := top 13
abbrev s__law_is_integer : Stmt := top 14
abbrev s__law_common : Stmt := top 15
abbrev s__law_is_share : Stmt := top 16
abbrev s_law : Stmt := top 17
theorem sc_is_whole : FnScope ["value"] ["value"] (defScope s_is_whole) := ⟨rfl, rfl, rfl, by decide +kernel, rfl, by decide +kernel, by decide +kernel⟩
theorem sc_Share___init__ : FnScope ["self", "top", "bottom", "common"] ["self", "top", "bottom"] (defScope s_Share___init__) := ⟨rfl, rfl, rfl, by decide +kernel, rfl, by decide +kernel, by decide +kernel⟩
theorem sc_Share___eq__ : FnScope ["self", "other"] ["self", "other"] (defScope s_Share___eq__) := ⟨rfl, rfl, rfl, by decide +kernel, rfl, by decide +kernel, by decide +kernel⟩
theorem sc_Share___add__ : FnScope ["self", "other", "more"] ["self", "other"] (defScope s_Share___add__) := ⟨rfl, rfl, rfl, by decide +kernel, rfl, by decide +kernel, by decide +kernel⟩
theorem sc_Share___radd__ : FnScope ["self", "other"] ["self", "other"] (defScope s_Share___radd__) := ⟨rfl, rfl, rfl, by decide +kernel, rfl, by decide +kernel, by decide +kernel⟩
theorem sc_Share___mul__ : FnScope ["self", "other", "times"] ["self", "other"] (defScope s_Share___mul__) := ⟨rfl, rfl, rfl, by decide +kernel, rfl, by decide +kernel, by decide +kernel⟩
theorem sc_Share___rmul__ : FnScope ["self", "other"] ["self", "other"] (defScope s_Share___rmul__) := ⟨rfl, rfl, rfl, by decide +kernel, rfl, by decide +kernel, by decide +kernel⟩
theorem sc_is_number : FnScope ["value"] ["value"] (defScope s_is_number) := ⟨rfl, rfl, rfl, by decide +kernel, rfl, by decide +kernel, by decide +kernel⟩
theorem sc_as_share : FnScope ["value"] ["value"] (defScope s_as_share) := ⟨rfl, rfl, rfl, by decide +kernel, rfl, by decide +kernel, by decide +kernel⟩
theorem sc_mean : FnScope ["shares", "whole", "share"] ["shares"] (defScope s_mean) := ⟨rfl, rfl, rfl, by decide +kernel, rfl, by decide +kernel, by decide +kernel⟩
theorem sc__law_pool : FnScope ["_law_script"] ["_law_script"] (defScope s__law_pool) := ⟨rfl, rfl, rfl, by decide +kernel, rfl, by decide +kernel, by decide +kernel⟩
theorem sc__law_draw : FnScope ["_law_pool_here", "_law_many", "_law_cell", "_law_digit", "_law_number_here"] ["_law_pool_here", "_law_many"] (defScope s__law_draw) := ⟨rfl, rfl, rfl, by decide +kernel, rfl, by decide +kernel, by decide +kernel⟩
theorem sc__law_number : FnScope ["_law_pool_here", "_law_parts", "_law_kind", "_law_number_here", "_law_k"] ["_law_pool_here", "_law_parts"] (defScope s__law_number) := ⟨rfl, rfl, rfl, by decide +kernel, rfl, by decide +kernel, by decide +kernel⟩
theorem sc__law_is_integer : FnScope ["_law_value"] ["_law_value"] (defScope s__law_is_integer) := ⟨rfl, rfl, rfl, by decide +kernel, rfl, by decide +kernel, by decide +kernel⟩
theorem sc__law_common : FnScope ["_law_one", "_law_other", "_law_k", "_law_rest"] ["_law_one", "_law_other"] (defScope s__law_common) := ⟨rfl, rfl, rfl, by decide +kernel, rfl, by decide +kernel, by decide +kernel⟩
theorem sc__law_is_share : FnScope ["_law_value", "_law_top", "_law_bottom"] ["_law_value", "_law_top", "_law_bottom"] (defScope s__law_is_share) := ⟨rfl, rfl, rfl, by decide +kernel, rfl, by decide +kernel, by decide +kernel⟩
theorem sc_law : FnScope ["_law_script", "_law_pool_here", "_law_items", "_law_top", "_law_bottom", "_law_k", "_law_a", "_law_b", "_law_asked"] ["_law_script"] (defScope s_law) := ⟨rfl, rfl, rfl, by decide +kernel, rfl, by decide +kernel, by decide +kernel⟩
structure Nms where
  a_is_whole : Addr
  d_is_whole : FuncData
  a_Share___init__ : Addr
  d_Share___init__ : FuncData
  a_Share___eq__ : Addr
  d_Share___eq__ : FuncData
  a_Share___add__ : Addr
  d_Share___add__ : FuncData
  a_Share___radd__ : Addr
  d_Share___radd__ : FuncData
  a_Share___mul__ : Addr
  d_Share___mul__ : FuncData
  a_Share___rmul__ : Addr
  d_Share___rmul__ : FuncData
  a_is_number : Addr
  d_is_number : FuncData
  a_as_share : Addr
  d_as_share : FuncData
  a_mean : Addr
  d_mean : FuncData
  a__law_pool : Addr
  d__law_pool : FuncData
  a__law_draw : Addr
  d__law_draw : FuncData
  a__law_number : Addr
  d__law_number : FuncData
  a__law_is_integer : Addr
  d__law_is_integer : FuncData
  a__law_common : Addr
  d__law_common : FuncData
  a__law_is_share : Addr
  d__law_is_share : FuncData
  a_law : Addr
  d_law : FuncData
  C_SeatError : Addr
  C_BadShare : Addr
  C_Share : Addr
structure Txt (K : PySem.W.Frag) (mg : Str → Option Value) (N : Nms) : Prop where
  z_isinstance : mg "isinstance" = none
  z_bool : mg "bool" = none
  z_int : mg "int" = none
  z_len : mg "len" = none
  z_list : mg "list" = none
  z_range : mg "range" = none
  F_is_whole : Fun K "is_whole" "is_whole" s_is_whole N.a_is_whole N.d_is_whole
  g_is_whole : mg "is_whole" = some (.ref N.a_is_whole)
  k_is_whole : PySem.W.keepIn K (.ref N.a_is_whole) = true
  b_is_whole : Binds K N.d_is_whole ["value"] []
  F_Share___init__ : FunD K "__init__" "Share.__init__" (defArgs s_Share___init__) (defBody s_Share___init__) (defScope s_Share___init__) [.int 1] [] N.a_Share___init__ N.d_Share___init__
  F_Share___eq__ : Fun K "__eq__" "Share.__eq__" s_Share___eq__ N.a_Share___eq__ N.d_Share___eq__
  b_Share___eq__ : Binds K N.d_Share___eq__ ["self", "other"] []
  F_Share___add__ : Fun K "__add__" "Share.__add__" s_Share___add__ N.a_Share___add__ N.d_Share___add__
  b_Share___add__ : Binds K N.d_Share___add__ ["self", "other"] []
  F_Share___radd__ : Fun K "__radd__" "Share.__radd__" s_Share___radd__ N.a_Share___radd__ N.d_Share___radd__
  b_Share___radd__ : Binds K N.d_Share___radd__ ["self", "other"] []
  F_Share___mul__ : Fun K "__mul__" "Share.__mul__" s_Share___mul__ N.a_Share___mul__ N.d_Share___mul__
  b_Share___mul__ : Binds K N.d_Share___mul__ ["self", "other"] []
  F_Share___rmul__ : Fun K "__rmul__" "Share.__rmul__" s_Share___rmul__ N.a_Share___rmul__ N.d_Share___rmul__
  b_Share___rmul__ : Binds K N.d_Share___rmul__ ["self", "other"] []
  F_is_number : Fun K "is_number" "is_number" s_is_number N.a_is_number N.d_is_number
  g_is_number : mg "is_number" = some (.ref N.a_is_number)
  k_is_number : PySem.W.keepIn K (.ref N.a_is_number) = true
  b_is_number : Binds K N.d_is_number ["value"] []
  F_as_share : Fun K "as_share" "as_share" s_as_share N.a_as_share N.d_as_share
  g_as_share : mg "as_share" = some (.ref N.a_as_share)
  k_as_share : PySem.W.keepIn K (.ref N.a_as_share) = true
  b_as_share : Binds K N.d_as_share ["value"] []
  F_mean : Fun K "mean" "mean" s_mean N.a_mean N.d_mean
  g_mean : mg "mean" = some (.ref N.a_mean)
  k_mean : PySem.W.keepIn K (.ref N.a_mean) = true
  b_mean : Binds K N.d_mean ["shares"] []
  F__law_pool : Fun K "_law_pool" "_law_pool" s__law_pool N.a__law_pool N.d__law_pool
  g__law_pool : mg "_law_pool" = some (.ref N.a__law_pool)
  k__law_pool : PySem.W.keepIn K (.ref N.a__law_pool) = true
  b__law_pool : Binds K N.d__law_pool ["_law_script"] []
  F__law_draw : Fun K "_law_draw" "_law_draw" s__law_draw N.a__law_draw N.d__law_draw
  g__law_draw : mg "_law_draw" = some (.ref N.a__law_draw)
  k__law_draw : PySem.W.keepIn K (.ref N.a__law_draw) = true
  b__law_draw : Binds K N.d__law_draw ["_law_pool_here", "_law_many"] []
  F__law_number : Fun K "_law_number" "_law_number" s__law_number N.a__law_number N.d__law_number
  g__law_number : mg "_law_number" = some (.ref N.a__law_number)
  k__law_number : PySem.W.keepIn K (.ref N.a__law_number) = true
  b__law_number : Binds K N.d__law_number ["_law_pool_here", "_law_parts"] []
  F__law_is_integer : Fun K "_law_is_integer" "_law_is_integer" s__law_is_integer N.a__law_is_integer N.d__law_is_integer
  g__law_is_integer : mg "_law_is_integer" = some (.ref N.a__law_is_integer)
  k__law_is_integer : PySem.W.keepIn K (.ref N.a__law_is_integer) = true
  b__law_is_integer : Binds K N.d__law_is_integer ["_law_value"] []
  F__law_common : Fun K "_law_common" "_law_common" s__law_common N.a__law_common N.d__law_common
  g__law_common : mg "_law_common" = some (.ref N.a__law_common)
  k__law_common : PySem.W.keepIn K (.ref N.a__law_common) = true
  b__law_common : Binds K N.d__law_common ["_law_one", "_law_other"] []
  F__law_is_share : Fun K "_law_is_share" "_law_is_share" s__law_is_share N.a__law_is_share N.d__law_is_share
  g__law_is_share : mg "_law_is_share" = some (.ref N.a__law_is_share)
  k__law_is_share : PySem.W.keepIn K (.ref N.a__law_is_share) = true
  b__law_is_share : Binds K N.d__law_is_share ["_law_value", "_law_top", "_law_bottom"] []
  F_law : Fun K "law" "law" s_law N.a_law N.d_law
  g_law : mg "law" = some (.ref N.a_law)
  k_law : PySem.W.keepIn K (.ref N.a_law) = true
  b_law : Binds K N.d_law ["_law_script"] []
  g_SeatError : mg "SeatError" = some (.ref N.C_SeatError)
  x_SeatError : PySem.W.excIn K N.C_SeatError [.type "ValueError", .type "Exception", .type "BaseException", .type "object"] "ValueError.__new__" = true
  kp_SeatError : PySem.W.keepIn K (.ref N.C_SeatError) = true
  sb_SeatError : PySem.W.subIn K (.ref N.C_SeatError) (.type "BaseException") = some true
  ty_SeatError : PySem.W.typeIn K (.ref N.C_SeatError) = some (.type "type")
  te_SeatError : PySem.W.exmOne K (.ref N.C_SeatError) (.ref N.C_SeatError) = some true
  ec_SeatError : ExcC K N.C_SeatError
  g_BadShare : mg "BadShare" = some (.ref N.C_BadShare)
  x_BadShare : PySem.W.excIn K N.C_BadShare [.type "ValueError", .type "Exception", .type "BaseException", .type "object"] "ValueError.__new__" = true
  kp_BadShare : PySem.W.keepIn K (.ref N.C_BadShare) = true
  sb_BadShare : PySem.W.subIn K (.ref N.C_BadShare) (.type "BaseException") = some true
  ty_BadShare : PySem.W.typeIn K (.ref N.C_BadShare) = some (.type "type")
  te_BadShare : PySem.W.exmOne K (.ref N.C_BadShare) (.ref N.C_BadShare) = some true
  ec_BadShare : ExcC K N.C_BadShare
  g_Share : mg "Share" = some (.ref N.C_Share)
  ow_Share : OwnT K N.C_Share
  mk_Share : Mk K N.C_Share N.a_Share___init__
  na_Share_top : NoAttr K N.C_Share "top"
  na_Share_bottom : NoAttr K N.C_Share "bottom"
  kit_Share_int : PySem.W.kitOne K (.ref N.C_Share) (.type "int") = some false
  kit_Share_bool : PySem.W.kitOne K (.ref N.C_Share) (.type "bool") = some false
  kit_int_Share : PySem.W.kitOne K (.type "int") (.ref N.C_Share) = some false
  b_Share___init__ : Binds K N.d_Share___init__ ["self", "top", "bottom"] []
  bd_Share___init___1 : ∃ ds, Vals [.int 1] ds ∧ Binds K N.d_Share___init__ ["self", "top", "bottom"] ds
  c_gcd : mg "gcd" = some (.builtin "math.gcd")
  bin_add : BinF K N.C_Share .Add N.a_Share___add__ N.a_Share___radd__
  bin_mul : BinF K N.C_Share .Mult N.a_Share___mul__ N.a_Share___rmul__
  m_Share___eq__ : PySem.W.findIn K (.ref N.C_Share) "__eq__" = some (some (.ref N.a_Share___eq__))
  i_Share___eq__ : PySem.W.isFn K (.ref N.a_Share___eq__) = true
  nf_Share : PySem.W.notFirst K N.C_Share (.ref N.C_Share) = true
end My
namespace My
open PySem L2
section
variable {P : Program} {w : World} {K : PySem.W.Frag} {mg : Str → Option Value} {base : Heap} {N : Nms}
theorem ok_is_whole (T : Txt K mg N)  : FnOk P w K mg base CX0 1 N.a_is_whole N.d_is_whole ["value"] (spWhole K) := by
  refine T.F_is_whole.ok sc_is_whole (fun vs H Q E h => ?_) (fun cdv A outer s H vs Q E hr h => ?_)
  all_goals unfold spWhole at h
  · obtain ⟨x, rfl, _⟩ := h
    rfl
  · obtain ⟨x, rfl, ⟨t, ht, k1, k2⟩, k⟩ := h
    refine ⟨_, (pss_one (ps_ret (pe_and (pe_callB call_isi (by rfl) T.z_isinstance (by decide +kernel) (pa_cons (pv 0) (pa_cons (pe_bltn (v := .ty "int") (by rfl) T.z_int (by decide +kernel) rfl) pa_nil))) (pe_one (pe_not (pe_callB call_isi (by rfl) T.z_isinstance (by decide +kernel) (pa_cons (pv 0) (pa_cons (pe_bltn (v := .ty "bool") (by rfl) T.z_bool (by decide +kernel) rfl) pa_nil)))))))), ?_⟩
    refine ⟨_, rfl, _, _, _, _, _, rfl, .ty "int", ht, k1, _, rfl, ?_⟩
    cases x with
    | int i => exact iteT ⟨_, rfl, _, _, _, _, _, rfl, .ty "bool", ht, k2, _, rfl, k⟩
    | bl b => exact iteT ⟨_, rfl, _, _, _, _, _, rfl, .ty "bool", ht, k2, _, rfl, k⟩
    | _ => exact iteF k
theorem ok_Share___init__ (T : Txt K mg N) (G_is_whole : FnOk P w K mg base CX0 1 N.a_is_whole N.d_is_whole ["value"] (spWhole K)) : FnOk P w K mg base (L2.CX P w) 2 N.a_Share___init__ N.d_Share___init__ ["self", "top", "bottom"] (spShare K N.C_Share N.C_BadShare) := by
  refine T.F_Share___init__.ok sc_Share___init__ (fun vs H Q E h => ?_) (fun cdv A outer s H vs Q E hr h => ?_)
  all_goals unfold spShare at h
  · obtain ⟨x, dx, a, c, rfl, _⟩ := h
    rfl
  · obtain ⟨x, dx, a, c, rfl, hx, ka, kc, kE, kQ⟩ := h
    refine ⟨_, (pss_cons (ps_if (PW.pt (pw_or (pt_not (pt_val (pe_call G_is_whole (hr.mono (by decide)) rfl T.g_is_whole T.k_is_whole T.b_is_whole .nil pass0 (pa_cons (pv 1) pa_nil)))) (pw_or (pt_not (pt_val (pe_call G_is_whole (hr.mono (by decide)) rfl T.g_is_whole T.k_is_whole T.b_is_whole .nil pass0 (pa_cons (pv 2) pa_nil)))) (pw_or1 (pt_cmpR op_eq (pv 2) pe_int (nomark _))))))
  (pss_one (ps_raise rfl (takes_of rfl rfl rfl rfl) (pmk_own PySem.F.excBase_ValueError T.x_BadShare T.g_BadShare T.kp_BadShare (raises_own T.sb_BadShare T.ty_BadShare) rfl)))
  pss_nil)
  (C8.pss_cut (ps_if (pt_cmpR op_lt (pv 2) pe_int (nomark _))
  (pss_one (ps_par (i := 1) (j := 2) (by rfl) sc_Share___init__.nd rfl rfl (by decide) rfl rfl (pa_cons (pe_un un_neg (pv 1)) (pa_cons (pe_un un_neg (pv 2)) pa_nil)) (by rfl)))
  pss_nil)
  (pss_cons (ps_set (i := 3) sc_Share___init__.nd rfl (Or.inl rfl) (pe_callBfun cr_gcd rfl T.c_gcd (pa_cons (pv 1) (pa_cons (pv 2) pa_nil))))
  (pss_cons (ps_fld (pv 0) (pe_op op_fdivW (pv 1) (pv 3)) rfl)
  (pss_one (ps_fld (pv 0) (pe_op op_fdivW (pv 2) (pv 3)) rfl)))))), ?_⟩
    wtm_at "rd"
    refine whole_ok ka ?_
    wtm_at "rd"
    cases ea : isI a with
    | false =>
      refine iteT ?_
      refine iteT ?_
      exact kE fun ⟨t, b, e1, _, _⟩ => by subst e1; cases ea
    | true =>
      obtain ⟨t, rfl⟩ : ∃ t, a = .int t := by cases a <;> first | exact ⟨_, rfl⟩ | cases ea
      refine iteF ?_
      wtm_at "rd"
      refine whole_ok kc ?_
      wtm_at "rd"
      cases ec : isI c with
      | false =>
        refine iteT ?_
        refine iteT ?_
        exact kE fun ⟨t, b, _, e1, _⟩ => by subst e1; cases ec
      | true =>
        obtain ⟨b, rfl⟩ : ∃ b, c = .int b := by cases c <;> first | exact ⟨_, rfl⟩ | cases ec
        refine iteF ?_
        wtm_at "rd"
        refine ite2 (fun h0 => ?_) (fun h0 => ?_)
        · have h0 : b = 0 := V.int.inj (of_decide_eq_true h0)
          exact kE fun ⟨t, b', _, e1, e2⟩ => by cases e1; exact e2 h0
        · have h0 : b ≠ 0 := fun z => h0 (decide_eq_true (by rw [z]))
          obtain ⟨bt, bb, k⟩ := kQ t b rfl rfl h0
          clear kE kQ
          refine ⟨fun σ' H' => H' = H ∧ σ' = [some (.ref x), some (.int (if b < 0 then -t else t)), some (.int (if b < 0 then -b else b)), none], ?_, ?_⟩
          · wtm_at "rd"
            refine ite2 (fun h => ?_) (fun h => ?_)
            · have h : b < 0 := of_decide_eq_true h
              rw [if_pos h, if_pos h]
              wtm_at "rd"
              rfl
            · have h : ¬ b < 0 := fun z => h (decide_eq_true z)
              rw [if_neg h, if_neg h]
              exact ⟨rfl, rfl⟩
          · rintro σ' H' ⟨rfl, rfl⟩
            have eg : ((Nat.gcd (if b < 0 then -t else t).natAbs (if b < 0 then -b else b).natAbs : Nat) : Int) = gcdI t b := by
              unfold gcdI
              split <;> simp only [Int.natAbs_neg]
            have hg := gcdI_pos (t := t) h0
            have hgb : (gcdI t b).natAbs < 2 ^ 4000 := by
              have : (gcdI t b).natAbs ≤ b.natAbs := by
                unfold gcdI
                rw [Int.natAbs_natCast]
                exact Nat.gcd_le_right _ (by omega)
              exact Nat.lt_of_le_of_lt this bb
            wtm_at "rd"
            refine ⟨_, _, rfl, ?_⟩
            rw [eg]
            wtm_at "rd"
            refine ⟨wide_div hg hgb (by decide) (by decide), ?_⟩
            wtm_at "rd"
            refine ⟨_, _, _, _, rfl, hx, T.ow_Share.cl, T.na_Share_top, (by show 0 < 1000; decide), ?_⟩
            wtm_at "rd"
            refine ⟨wide_div hg hgb (by decide) (by decide), ?_⟩
            wtm_at "rd"
            refine ⟨_, _, _, _, rfl, upd_same, T.ow_Share.cl, T.na_Share_bottom, (by show 1 < 1000; decide), ?_⟩
            exact k _ upd_same (But.upd (But.upd (But.refl _ _)))
theorem ok_Share___eq__ (T : Txt K mg N) (G_is_whole : FnOk P w K mg base CX0 1 N.a_is_whole N.d_is_whole ["value"] (spWhole K)) : FnOk P w K mg base CX0 2 N.a_Share___eq__ N.d_Share___eq__ ["self", "other"] (spEq K N.C_Share) := by
  refine T.F_Share___eq__.ok sc_Share___eq__ (fun vs H Q E h => ?_) (fun cdv A outer s H vs Q E hr h => ?_)
  all_goals unfold spEq at h
  · obtain ⟨a, y, p, q, rfl, _⟩ := h
    rfl
  · obtain ⟨a, y, p, q, rfl, ⟨da, ha⟩, h⟩ := h
    refine ⟨_, (pss_cons (ps_if (pt_val (pe_call G_is_whole (hr.mono (by decide)) rfl T.g_is_whole T.k_is_whole T.b_is_whole .nil pass0 (pa_cons (pv 1) pa_nil)))
  (pss_one (ps_ret (pe_and (pe_cmpR op_eq (pe_fld (pv 0) rfl) (pv 1) (nomark _)) (pe_one (pe_cmpR op_eq (pe_fld (pv 0) rfl) pe_int (nomark _))))))
  pss_nil)
  (pss_one (ps_ret (pe_and (pe_callB call_isi (by rfl) T.z_isinstance (by decide +kernel) (pa_cons (pv 1) (pa_cons (pe_glob (v := .ref N.C_Share) rfl T.g_Share rfl) pa_nil))) (pe_and (pe_cmpR op_eq (pe_fld (pv 0) rfl) (pe_fld (pv 1) rfl) (nomark _)) (pe_one (pe_cmpR op_eq (pe_fld (pv 0) rfl) (pe_fld (pv 1) rfl) (nomark _)))))))), ?_⟩
    have c1 := T.ow_Share.cl
    have c2 := T.na_Share_top
    have c3 := T.na_Share_bottom
    rcases h with ⟨r, s, hy, k⟩ | ⟨hI, hk, ⟨t, ht, hn⟩, k⟩
    · rcases hy with ⟨rfl, rfl⟩ | ⟨b, rfl, db, hb⟩
      · wtm_at "rd"
        refine whole_ok (.int _) ?_
        wtm_at "rd"
        refine ite2 (fun h => ?_) (fun h => ?_)
        · have h : p = r := V.int.inj (of_decide_eq_true h)
          wtm_at "rd"
          exact k _ (by simp [h])
        · have h : ¬ p = r := fun z => h (decide_eq_true (congrArg V.int z))
          exact k _ (by simp [h])
      · wtm_at "rd"
        refine whole_ok ⟨_, T.ow_Share.ty hb, T.kit_Share_int, T.kit_Share_bool⟩ ?_
        wtm_at "rd"
        refine ⟨_, _, _, _, _, rfl, .own _, T.ow_Share.ty hb, kit_self, ?_⟩
        wtm_at "rd"
        refine ite2 (fun h => ?_) (fun h => ?_)
        · have h : p = r := V.int.inj (of_decide_eq_true h)
          wtm_at "rd"
          exact k _ (by simp [h])
        · have h : ¬ p = r := fun z => h (decide_eq_true (congrArg V.int z))
          exact k _ (by simp [h])
    · wtm_at "rd"
      refine whole_ok hk ?_
      rw [hI]
      wtm_at "rd"
      refine ⟨_, _, _, _, _, rfl, .own _, ht, hn, ?_⟩
      wtm_at "rd"
      exact k
theorem ok_as_share (T : Txt K mg N) (G_Share___init__ : FnOk P w K mg base (L2.CX P w) 2 N.a_Share___init__ N.d_Share___init__ ["self", "top", "bottom"] (spShare K N.C_Share N.C_BadShare)) : FnOk P w K mg base CX0 4 N.a_as_share N.d_as_share ["value"] (spAs N.C_Share) := by
  refine T.F_as_share.ok sc_as_share (fun vs H Q E h => ?_) (fun cdv A outer s H vs Q E hr h => ?_)
  all_goals unfold spAs at h
  · obtain ⟨x, p, q, rfl, _⟩ := h
    rfl
  · obtain ⟨x, p, q, rfl, hx, hp, k⟩ := h
    obtain ⟨ds_Share_1, vd_Share_1, bd_Share_1⟩ := T.bd_Share___init___1
    refine ⟨_, (pss_cons (ps_if (pt_val (pe_callB call_isi (by rfl) T.z_isinstance (by decide +kernel) (pa_cons (pv 0) (pa_cons (pe_glob (v := .ref N.C_Share) rfl T.g_Share rfl) pa_nil))))
  (pss_one (ps_ret (pv 0)))
  pss_nil)
  (pss_one (ps_ret (pe_make T.mk_Share G_Share___init__ (hr.mono (by decide)) rfl T.g_Share bd_Share_1 vd_Share_1 passL (pa_cons (pv 0) pa_nil))))), ?_⟩
    rcases hx with ⟨rfl, rfl⟩ | ⟨a, rfl, hx⟩
    · wtm_at "rd"
      refine ⟨_, _, _, _, _, rfl, .own _, .base (.int _), T.kit_int_Share, ?_⟩
      wtm_at "rd"
      intro y dy ny ndy ney
      refine share_ok p 1 (by decide) hp (by decide) ny ndy fun H' hS s' => ⟨rfl, ?_⟩
      rw [shT_one, shB_one] at hS
      exact k _ _ hS s'
    · obtain ⟨dx, hx'⟩ := id hx
      wtm_at "rd"
      refine ⟨_, _, _, _, _, rfl, .own _, T.ow_Share.ty hx', kit_self, ?_⟩
      wtm_at "rd"
      exact k _ _ hx (Same.refl _)
theorem ok_is_number (T : Txt K mg N) (G_is_whole : FnOk P w K mg base CX0 1 N.a_is_whole N.d_is_whole ["value"] (spWhole K)) : FnOk P w K mg base CX0 2 N.a_is_number N.d_is_number ["value"] (spIsNum N.C_Share) := by
  refine T.F_is_number.ok sc_is_number (fun vs H Q E h => ?_) (fun cdv A outer s H vs Q E hr h => ?_)
  all_goals unfold spIsNum at h
  · obtain ⟨x, p, q, rfl, _⟩ := h
    rfl
  · obtain ⟨x, p, q, rfl, hx, k⟩ := h
    refine ⟨_, (pss_one (ps_ret (pe_or (pe_call G_is_whole (hr.mono (by decide)) rfl T.g_is_whole T.k_is_whole T.b_is_whole .nil pass0 (pa_cons (pv 0) pa_nil)) (pe_one (pe_callB call_isi (by rfl) T.z_isinstance (by decide +kernel) (pa_cons (pv 0) (pa_cons (pe_glob (v := .ref N.C_Share) rfl T.g_Share rfl) pa_nil))))))), ?_⟩
    rcases hx with ⟨rfl, rfl⟩ | ⟨a, rfl, dx, hx⟩
    · wtm_at "rd"
      refine whole_ok (.int _) ?_
      wtm_at "rd"
      exact k
    · wtm_at "rd"
      refine whole_ok ⟨_, T.ow_Share.ty hx, T.kit_Share_int, T.kit_Share_bool⟩ ?_
      wtm_at "rd"
      exact ⟨_, _, _, _, _, rfl, .own _, T.ow_Share.ty hx, kit_self, k⟩
theorem ok_Share___add__ (T : Txt K mg N) (G_Share___init__ : FnOk P w K mg base (L2.CX P w) 2 N.a_Share___init__ N.d_Share___init__ ["self", "top", "bottom"] (spShare K N.C_Share N.C_BadShare)) (G_as_share : FnOk P w K mg base CX0 4 N.a_as_share N.d_as_share ["value"] (spAs N.C_Share)) (G_is_number : FnOk P w K mg base CX0 2 N.a_is_number N.d_is_number ["value"] (spIsNum N.C_Share)) : FnOk P w K mg base CX0 5 N.a_Share___add__ N.d_Share___add__ ["self", "other"] (spBin N.C_Share fAdd) := by
  refine T.F_Share___add__.ok sc_Share___add__ (fun vs H Q E h => ?_) (fun cdv A outer s H vs Q E hr h => ?_)
  all_goals unfold spBin at h
  · obtain ⟨a, y, p, q, r, s, rfl, _⟩ := h
    rfl
  · obtain ⟨a, y, p, q, r, s, rfl, ha, hy, hq, hs, b1, b2, b3, b4, k⟩ := h
    refine ⟨_, (pss_cons (ps_if (pt_not (pt_val (pe_call G_is_number (hr.mono (by decide)) rfl T.g_is_number T.k_is_number T.b_is_number .nil pass0 (pa_cons (pv 1) pa_nil))))
  (pss_one ps_never)
  pss_nil)
  (pss_cons (ps_set (i := 2) sc_Share___add__.nd rfl (Or.inl rfl) (pe_call G_as_share (hr.mono (by decide)) rfl T.g_as_share T.k_as_share T.b_as_share .nil pass0 (pa_cons (pv 1) pa_nil)))
  (pss_one (ps_ret (pe_make T.mk_Share G_Share___init__ (hr.mono (by decide)) rfl T.g_Share T.b_Share___init__ .nil passL (pa_cons (pe_op op_add (pe_op op_mulW (pe_fld (pv 0) rfl) (pe_fld (pv 2) rfl)) (pe_op op_mulW (pe_fld (pv 2) rfl) (pe_fld (pv 0) rfl))) (pa_cons (pe_op op_mulW (pe_fld (pv 0) rfl) (pe_fld (pv 2) rfl)) pa_nil))))))), ?_⟩
    have c1 := T.ow_Share.cl
    have c2 := T.na_Share_top
    have c3 := T.na_Share_bottom
    wtm_at "rd"
    refine isNum_ok hy ?_
    wtm_at "rd"
    refine as_ok hy (pow_lift b3 (by decide)) fun m H1 hm s1 => ?_
    obtain ⟨da, ha1⟩ := ha.same s1
    obtain ⟨dm, hm1⟩ := id hm
    have hqs := pos_mul hq hs
    wtm_at "rd"
    refine ⟨wide_mul b1 b4 (by decide) (by decide) (by decide), ?_⟩
    wtm_at "rd"
    refine ⟨wide_mul b3 b2 (by decide) (by decide) (by decide), ?_⟩
    wtm_at "rd"
    refine ⟨wide_mul b2 b4 (by decide) (by decide) (by decide), ?_⟩
    wtm_at "rd"
    intro z dz nz ndz nez
    have w1 := pow_lift (add_lt (wide_lt b1 b4) (wide_lt b3 b2)) (show 1900 + 1900 + 1 ≤ 4000 by decide)
    have w2 := pow_lift (wide_lt b2 b4) (show 1900 + 1900 ≤ 4000 by decide)
    refine share_ok (p * s + r * q) (q * s) (by omega) w1 w2 nz ndz fun H' hS s' => ⟨rfl, ?_⟩
    exact k _ _ hS (s1.trans s')
theorem ok_Share___radd__ (T : Txt K mg N) (G_as_share : FnOk P w K mg base CX0 4 N.a_as_share N.d_as_share ["value"] (spAs N.C_Share)) (G_is_number : FnOk P w K mg base CX0 2 N.a_is_number N.d_is_number ["value"] (spIsNum N.C_Share)) (G_Share___add__ : FnOk P w K mg base CX0 5 N.a_Share___add__ N.d_Share___add__ ["self", "other"] (spBin N.C_Share fAdd)) : FnOk P w K mg base CX0 6 N.a_Share___radd__ N.d_Share___radd__ ["self", "other"] (spBinR N.C_Share fAdd) := by
  refine T.F_Share___radd__.ok sc_Share___radd__ (fun vs H Q E h => ?_) (fun cdv A outer s H vs Q E hr h => ?_)
  all_goals unfold spBinR at h
  · obtain ⟨a, p, q, i, rfl, _⟩ := h
    rfl
  · obtain ⟨a, p, q, i, rfl, ha, hq, b1, b2, b3, k⟩ := h
    refine ⟨_, (pss_cons (ps_if (pt_not (pt_val (pe_call G_is_number (hr.mono (by decide)) rfl T.g_is_number T.k_is_number T.b_is_number .nil pass0 (pa_cons (pv 1) pa_nil))))
  (pss_one ps_never)
  pss_nil)
  (pss_one (ps_ret (pe_op (op_binS T.bin_add G_Share___add__ (hr.mono (by decide)) T.b_Share___add__ pass0) (pe_call G_as_share (hr.mono (by decide)) rfl T.g_as_share T.k_as_share T.b_as_share .nil pass0 (pa_cons (pv 1) pa_nil)) (pv 0))))), ?_⟩
    wtm_at "rd"
    refine isNum_ok (.int _ _ i) ?_
    wtm_at "rd"
    refine as_ok (.int _ _ i) (pow_lift b3 (by decide)) fun m H1 hm s1 => ?_
    obtain ⟨da, ha1⟩ := ha.same s1
    obtain ⟨dm, hm1⟩ := id hm
    wtm_at "rd"
    refine ⟨_, _, _, rfl, hm1, .inl ⟨_, _, _, rfl, ha1⟩, ?_⟩
    refine bin_ok hm (ha.same s1).num (by decide) hq b3 (by decide) b1 b2 fun z H' hS s' => ?_
    exact k _ _ hS (s1.trans s')
theorem ok_Share___mul__ (T : Txt K mg N) (G_Share___init__ : FnOk P w K mg base (L2.CX P w) 2 N.a_Share___init__ N.d_Share___init__ ["self", "top", "bottom"] (spShare K N.C_Share N.C_BadShare)) (G_as_share : FnOk P w K mg base CX0 4 N.a_as_share N.d_as_share ["value"] (spAs N.C_Share)) (G_is_number : FnOk P w K mg base CX0 2 N.a_is_number N.d_is_number ["value"] (spIsNum N.C_Share)) : FnOk P w K mg base CX0 5 N.a_Share___mul__ N.d_Share___mul__ ["self", "other"] (spBin N.C_Share fMul) := by
  refine T.F_Share___mul__.ok sc_Share___mul__ (fun vs H Q E h => ?_) (fun cdv A outer s H vs Q E hr h => ?_)
  all_goals unfold spBin at h
  · obtain ⟨a, y, p, q, r, s, rfl, _⟩ := h
    rfl
  · obtain ⟨a, y, p, q, r, s, rfl, ha, hy, hq, hs, b1, b2, b3, b4, k⟩ := h
    refine ⟨_, (pss_cons (ps_if (pt_not (pt_val (pe_call G_is_number (hr.mono (by decide)) rfl T.g_is_number T.k_is_number T.b_is_number .nil pass0 (pa_cons (pv 1) pa_nil))))
  (pss_one ps_never)
  pss_nil)
  (pss_cons (ps_set (i := 2) sc_Share___mul__.nd rfl (Or.inl rfl) (pe_call G_as_share (hr.mono (by decide)) rfl T.g_as_share T.k_as_share T.b_as_share .nil pass0 (pa_cons (pv 1) pa_nil)))
  (pss_one (ps_ret (pe_make T.mk_Share G_Share___init__ (hr.mono (by decide)) rfl T.g_Share T.b_Share___init__ .nil passL (pa_cons (pe_op op_mulW (pe_fld (pv 0) rfl) (pe_fld (pv 2) rfl)) (pa_cons (pe_op op_mulW (pe_fld (pv 0) rfl) (pe_fld (pv 2) rfl)) pa_nil))))))), ?_⟩
    have c1 := T.ow_Share.cl
    have c2 := T.na_Share_top
    have c3 := T.na_Share_bottom
    wtm_at "rd"
    refine isNum_ok hy ?_
    wtm_at "rd"
    refine as_ok hy (pow_lift b3 (by decide)) fun m H1 hm s1 => ?_
    obtain ⟨da, ha1⟩ := ha.same s1
    obtain ⟨dm, hm1⟩ := id hm
    have hqs := pos_mul hq hs
    wtm_at "rd"
    refine ⟨wide_mul b1 b3 (by decide) (by decide) (by decide), ?_⟩
    wtm_at "rd"
    refine ⟨wide_mul b2 b4 (by decide) (by decide) (by decide), ?_⟩
    wtm_at "rd"
    intro z dz nz ndz nez
    have w1 := pow_lift (wide_lt b1 b3) (show 1900 + 1900 ≤ 4000 by decide)
    have w2 := pow_lift (wide_lt b2 b4) (show 1900 + 1900 ≤ 4000 by decide)
    refine share_ok (p * r) (q * s) (by omega) w1 w2 nz ndz fun H' hS s' => ⟨rfl, ?_⟩
    exact k _ _ hS (s1.trans s')
theorem ok_Share___rmul__ (T : Txt K mg N) (G_as_share : FnOk P w K mg base CX0 4 N.a_as_share N.d_as_share ["value"] (spAs N.C_Share)) (G_is_number : FnOk P w K mg base CX0 2 N.a_is_number N.d_is_number ["value"] (spIsNum N.C_Share)) (G_Share___mul__ : FnOk P w K mg base CX0 5 N.a_Share___mul__ N.d_Share___mul__ ["self", "other"] (spBin N.C_Share fMul)) : FnOk P w K mg base CX0 6 N.a_Share___rmul__ N.d_Share___rmul__ ["self", "other"] (spBinR N.C_Share fMul) := by
  refine T.F_Share___rmul__.ok sc_Share___rmul__ (fun vs H Q E h => ?_) (fun cdv A outer s H vs Q E hr h => ?_)
  all_goals unfold spBinR at h
  · obtain ⟨a, p, q, i, rfl, _⟩ := h
    rfl
  · obtain ⟨a, p, q, i, rfl, ha, hq, b1, b2, b3, k⟩ := h
    refine ⟨_, (pss_cons (ps_if (pt_not (pt_val (pe_call G_is_number (hr.mono (by decide)) rfl T.g_is_number T.k_is_number T.b_is_number .nil pass0 (pa_cons (pv 1) pa_nil))))
  (pss_one ps_never)
  pss_nil)
  (pss_one (ps_ret (pe_op (op_binS T.bin_mul G_Share___mul__ (hr.mono (by decide)) T.b_Share___mul__ pass0) (pe_call G_as_share (hr.mono (by decide)) rfl T.g_as_share T.k_as_share T.b_as_share .nil pass0 (pa_cons (pv 1) pa_nil)) (pv 0))))), ?_⟩
    wtm_at "rd"
    refine isNum_ok (.int _ _ i) ?_
    wtm_at "rd"
    refine as_ok (.int _ _ i) (pow_lift b3 (by decide)) fun m H1 hm s1 => ?_
    obtain ⟨da, ha1⟩ := ha.same s1
    obtain ⟨dm, hm1⟩ := id hm
    wtm_at "rd"
    refine ⟨_, _, _, rfl, hm1, .inl ⟨_, _, _, rfl, ha1⟩, ?_⟩
    refine bin_ok hm (ha.same s1).num (by decide) hq b3 (by decide) b1 b2 fun z H' hS s' => ?_
    exact k _ _ hS (s1.trans s')
theorem ok_mean (T : Txt K mg N) (G_Share___init__ : FnOk P w K mg base (L2.CX P w) 2 N.a_Share___init__ N.d_Share___init__ ["self", "top", "bottom"] (spShare K N.C_Share N.C_BadShare)) (G_Share___add__ : FnOk P w K mg base CX0 5 N.a_Share___add__ N.d_Share___add__ ["self", "other"] (spBin N.C_Share fAdd)) (G_Share___mul__ : FnOk P w K mg base CX0 5 N.a_Share___mul__ N.d_Share___mul__ ["self", "other"] (spBin N.C_Share fMul)) : FnOk P w K mg base (L2.CX P w) 6 N.a_mean N.d_mean ["shares"] (spMean K N.C_Share N.C_BadShare) := by
  refine T.F_mean.okX sc_mean (fun vs H Q E h => ?_) (fun cdv A outer s H vs Q E hr h => ?_)
  all_goals unfold spMean at h
  · obtain ⟨l, p, xs, its, rfl, _⟩ := h
    rfl
  · obtain ⟨l, p, xs, its, rfl, hl, hI, h8, kE, kQ⟩ := h
    obtain ⟨ds_Share_1, vd_Share_1, bd_Share_1⟩ := T.bd_Share___init___1
    refine ⟨_, (pss_cons (ps_if (pt_cmpR op_eq (pe_callB call_len_seq (by rfl) T.z_len (by decide +kernel) (pa_cons (pv 0) pa_nil)) pe_int (nomark _))
  (pss_one (ps_raise rfl (takes_of rfl rfl rfl rfl) (pmk_own PySem.F.excBase_ValueError T.x_BadShare T.g_BadShare T.kp_BadShare (raises_own T.sb_BadShare T.ty_BadShare) rfl)))
  pss_nil)
  (pss_cons (ps_set (i := 1) sc_mean.nd rfl (Or.inl rfl) (pe_make T.mk_Share G_Share___init__ (hr.mono (by decide)) rfl T.g_Share bd_Share_1 vd_Share_1 passL (pa_cons pe_int pa_nil)))
  (pss_cons (ps_for (passes_of rfl) rfl (pi_list (pv 0)) (pg_name (i := 2) sc_mean.nd rfl (Or.inl rfl))
  (pss_one (ps_set (i := 1) sc_mean.nd rfl (Or.inl rfl) (pe_op (op_binS T.bin_add G_Share___add__ (hr.mono (by decide)) T.b_Share___add__ pass0) (pv 1) (pv 2)))))
  (pss_one (ps_ret (pe_op (op_binS T.bin_mul G_Share___mul__ (hr.mono (by decide)) T.b_Share___mul__ pass0) (pv 1) (pe_make T.mk_Share G_Share___init__ (hr.mono (by decide)) rfl T.g_Share T.b_Share___init__ .nil passL (pa_cons pe_int (pa_cons (pe_callB call_len_seq (by rfl) T.z_len (by decide +kernel) (pa_cons (pv 0) pa_nil)) pa_nil))))))))), ?_⟩
    wtm_at "rd"
    refine ⟨_, _, rfl, Or.inl hl, rfl, _, rfl, ?_⟩
    refine ite2 (fun h => ?_) (fun h => ?_)
    · have h : xs = [] := by
        have e : (xs.length : Int) = 0 := V.int.inj (of_decide_eq_true h)
        exact List.length_eq_zero_iff.mp (by omega)
      exact kE h
    · have h : xs ≠ [] := fun e => h (by subst e; rfl)
      have k := kQ h
      clear kE kQ
      have hn1 : 1 ≤ xs.length := by
        cases xs with
        | nil => exact absurd rfl h
        | cons a b => exact Nat.succ_le_succ (Nat.zero_le _)
      wtm_at "rd"
      intro x dx nx ndx nex
      refine share_ok 0 1 (by decide) (by decide) (by decide) nx ndx fun H1 hS s1 => ⟨rfl, ?_⟩
      rw [shT_one, shB_one] at hS
      refine ⟨_, rfl, l, rfl, ⟨_, s1.seq hl⟩, for_list (K := K) (a := l) (xs := xs) (fun i σ H2 => ∃ (wa : Addr) (v : Option V) (t b : Int), σ = [some (.ref l), some (.ref wa), v] ∧ ShareAt N.C_Share H2 wa t b ∧ Run its i t b ∧ Same H H2)
        ⟨x, none, 0, 1, rfl, hS, Run.zero its, s1⟩ (fun i σ H2 _ ⟨_, _, _, _, _, _, _, s2⟩ => s2.seq hl) ?_ ?_⟩
      · rintro i y σ H2 hi ⟨wa, v, t, b, rfl, hw, R, s2⟩
        have hi8 : i < xs.length := (List.getElem?_eq_some_iff.mp hi).1
        obtain ⟨ab, hab, I⟩ := paired_get hI hi
        have hy := I.num.same s2
        have x0 : ab.2 ≠ 0 := by have := I.b1; omega
        obtain ⟨dw, hw1⟩ := id hw
        wtm_at "rd"
        have bt : t.natAbs < 2 ^ 1900 := pow_lift R.tb (by omega)
        have bb : b.natAbs < 2 ^ 1900 := pow_lift R.bb (by omega)
        have ca : ab.1.natAbs < 2 ^ 1900 := Nat.lt_of_lt_of_le I.a1 (Nat.le_trans (by decide) (Nat.pow_le_pow_right (by decide) (show 50 ≤ 1900 by decide)))
        have cb : ab.2.natAbs < 2 ^ 1900 := by
          have z1 := I.b1
          have z2 := I.b2
          exact Nat.lt_of_le_of_lt (show ab.2.natAbs ≤ 30 by omega) (Nat.lt_of_lt_of_le (by decide) (Nat.pow_le_pow_right (by decide) (show 5 ≤ 1900 by decide)))
        have alt : (∃ b dy gs, y = V.ref b ∧ H2 b = some (.ins N.C_Share dy gs)) ∨ ∃ i, y = V.int i := by
          rcases hy with ⟨e, _⟩ | ⟨c, e, dy, hc⟩
          · exact .inr ⟨_, e⟩
          · exact .inl ⟨c, dy, _, e, hc⟩
        refine ⟨_, _, _, rfl, hw1, alt, bin_ok hw hy R.pos (shB_pos x0) bt bb (Nat.lt_of_le_of_lt (shT_le x0) ca) (Nat.lt_of_le_of_lt (shB_le x0) cb) fun z H3 hz s3 => ?_⟩
        exact ⟨z, _, _, _, rfl, hz, R.step hab I.b1 I.b2 I.a1, s2.trans s3⟩
      · rintro σ H2 ⟨wa, v, t, b, rfl, hw, R, s2⟩
        have ei : its.take xs.length = its := by rw [hI.length]; exact List.take_length
        have e := R.val
        rw [ei] at e
        wtm_at "rd"
        refine ⟨_, _, rfl, Or.inl (s2.seq hl), ?_⟩
        intro y dy ny ndy ney
        have hn : (1 : Int) ≤ (xs.length : Int) := by omega
        have bn : ((xs.length : Nat) : Int).natAbs < 2 ^ 4 := by
          rw [Int.natAbs_natCast]; exact Nat.lt_of_le_of_lt h8 (by decide)
        refine share_ok 1 (xs.length : Int) (by omega) (by decide) (pow_lift bn (by decide)) ny ndy fun H3 hy s3 => ⟨rfl, ?_⟩
        obtain ⟨n1, n2⟩ := shB_nat_one hn
        rw [n1, n2] at hy
        replace hw := hw.same s3
        obtain ⟨dw, hw1⟩ := id hw
        obtain ⟨dy, hy1⟩ := id hy
        have bt := R.tb
        have bb := R.bb
        refine ⟨_, _, _, rfl, hw1, .inl ⟨_, _, _, rfl, hy1⟩, bin_ok hw hy.num R.pos hn (pow_lift bt (by omega)) (pow_lift bb (by omega)) (by decide) (pow_lift bn (by decide)) fun z H4 hz s4 => ?_⟩
        refine k z H4 _ _ hz (pos_mul R.pos hn) ?_ ?_ ?_ ((s2.trans s3).trans s4)
        · grind
        · show (t * 1).natAbs < _
          rw [Int.mul_one]; exact pow_lift bt (by omega)
        · exact pow_lift (wide_lt bb bn) (by omega)
theorem ok__law_pool (T : Txt K mg N)  : FnOk P w K mg base CX0 1 N.a__law_pool N.d__law_pool ["_law_script"] (spPool K) := by
  refine T.F__law_pool.ok sc__law_pool (fun vs H Q E h => ?_) (fun cdv A outer s H vs Q E hr h => ?_)
  all_goals unfold spPool at h
  · obtain ⟨a, ns, rfl, _⟩ := h
    rfl
  · obtain ⟨a, ns, rfl, hS, k⟩ := h
    refine ⟨_, (pss_one (ps_ret (pe_lst (pa_cons (pe_callTy call_list_of (by rfl) T.z_list (by decide +kernel) (pa_cons (pv 0) pa_nil)) (pa_cons pe_int (pa_cons pe_int (pa_cons pe_int (pa_cons pe_int pa_nil)))))))), ?_⟩
    refine ⟨_, rfl, _, _, rfl, Or.inl hS, fun l hl => ?_⟩
    refine ⟨(by show 5 ≤ sizeLine; decide), fun p hp => ?_⟩
    have nlp : l ≠ p := by
      intro e; subst e; rw [upd_same] at hp; cases hp
    have hp0 : H p = none := by rw [upd_ne nlp.symm] at hp; exact hp
    exact k p l _ hp0 hl ⟨0, 0, 0, 1, upd_same, by rw [upd_ne nlp]; exact upd_same, by decide⟩ ((same_new hl).trans (same_new hp))
theorem ok__law_draw (T : Txt K mg N)  : FnOk P w K mg base CX0 1 N.a__law_draw N.d__law_draw ["_law_pool_here", "_law_many"] spDraw := by
  refine T.F__law_draw.ok sc__law_draw (fun vs H Q E h => ?_) (fun cdv A outer s H vs Q E hr h => ?_)
  all_goals unfold spDraw at h
  · obtain ⟨p, l, ns, m, rfl, _⟩ := h
    rfl
  · obtain ⟨p, l, ns, m, rfl, hP, hm, hm2, k⟩ := h
    have npl : l ≠ p := hP.ne
    obtain ⟨a, b, c, d, hp, hl, ha⟩ := hP
    refine ⟨_, (pss_cons (ps_asg (pe_op op_add (pe_ix ix_list (pv 0) pe_int (fun _ _ => rfl)) pe_int) (pg_sub (pv 0) pe_int set_list))
  (C8.pss_cut (ps_if (PW.pt (pw_and (pt_cmpR op_eq (pe_ix ix_list (pv 0) pe_int (fun _ _ => rfl)) pe_int (nomark _)) (pw_and1 (pt_cmpR op_lt (pe_ix ix_list (pv 0) pe_int (fun _ _ => rfl)) (pe_callB call_len_seq (by rfl) T.z_len (by decide +kernel) (pa_cons (pe_ix ix_list (pv 0) pe_int (fun _ _ => rfl)) pa_nil)) (nomark _)))))
  (pss_cons (ps_set (i := 2) sc__law_draw.nd rfl (Or.inl rfl) (pe_callTy call_int1 (by rfl) T.z_int (by decide +kernel) (pa_cons (pe_ix ix_list (pe_ix ix_list (pv 0) pe_int (fun _ _ => rfl)) (pe_ix ix_list (pv 0) pe_int (fun _ _ => rfl)) (fun _ _ => rfl)) pa_nil)))
  (pss_cons (ps_asg (pe_op op_add (pe_ix ix_list (pv 0) pe_int (fun _ _ => rfl)) pe_int) (pg_sub (pv 0) pe_int set_list))
  (pss_one (ps_if (pt_cmpR op_ge (pv 2) (pe_op op_pow pe_int pe_int) (nomark _))
  (pss_one (ps_asg (pv 2) (pg_sub (pv 0) pe_int set_list)))
  (pss_one (ps_asg (pe_op op_mod (pe_callTy call_int1 (by rfl) T.z_int (by decide +kernel) (pa_cons (pe_op op_add (pe_ix ix_list (pv 0) pe_int (fun _ _ => rfl)) (pe_op op_mul (pv 2) pe_int)) pa_nil)) pe_int) (pg_sub (pv 0) pe_int set_list)))))))
  pss_nil)
  (pss_cons (ps_if (pt_cmpR op_gt (pe_ix ix_list (pv 0) pe_int (fun _ _ => rfl)) pe_int (nomark _))
  (pss_cons (ps_set (i := 3) sc__law_draw.nd rfl (Or.inl rfl) (pe_op op_mod (pe_callTy call_int1 (by rfl) T.z_int (by decide +kernel) (pa_cons (pe_ix ix_list (pv 0) pe_int (fun _ _ => rfl)) pa_nil)) (pv 1)))
  (pss_cons (ps_asg (pe_op op_fdiv (pe_callTy call_int1 (by rfl) T.z_int (by decide +kernel) (pa_cons (pe_ix ix_list (pv 0) pe_int (fun _ _ => rfl)) pa_nil)) (pv 1)) (pg_sub (pv 0) pe_int set_list))
  (pss_one (ps_ret (pv 3)))))
  pss_nil)
  (pss_cons (ps_set (i := 4) sc__law_draw.nd rfl (Or.inl rfl) (pe_op op_mod (pe_callTy call_int1 (by rfl) T.z_int (by decide +kernel) (pa_cons (pe_op op_add (pe_op op_add (pe_ix ix_list (pv 0) pe_int (fun _ _ => rfl)) (pe_op op_mul (pe_ix ix_list (pv 0) pe_int (fun _ _ => rfl)) pe_int)) pe_int) pa_nil)) pe_int))
  (pss_cons (ps_set (i := 4) sc__law_draw.nd rfl (Or.inl rfl) (pe_op op_mod (pe_callTy call_int1 (by rfl) T.z_int (by decide +kernel) (pa_cons (pe_op op_mul (pv 4) (pe_op op_add (pe_op op_fdiv (pv 4) pe_int) pe_int)) pa_nil)) pe_int))
  (pss_cons (ps_set (i := 4) sc__law_draw.nd rfl (Or.inl rfl) (pe_op op_mod (pe_callTy call_int1 (by rfl) T.z_int (by decide +kernel) (pa_cons (pe_op op_mul (pv 4) (pe_op op_add (pe_op op_fdiv (pv 4) pe_int) pe_int)) pa_nil)) pe_int))
  (pss_cons (ps_asg (pv 4) (pg_sub (pv 0) pe_int set_list))
  (pss_one (ps_ret (pe_op op_mod (pe_callTy call_int1 (by rfl) T.z_int (by decide +kernel) (pa_cons (pe_op op_fdiv (pv 4) pe_int) pa_nil)) (pv 1))))))))))), ?_⟩
    wtm_at "rd"
    generalize eH1 : upd H p _ = H1
    have hp1 : H1 p = some (.lst [.ref l, .int a, .int b, .int (c + 1), .int d]) := by rw [← eH1]; exact upd_same
    have hl1 : H1 l = some (.lst (ns.map V.int)) := by rw [← eH1, upd_ne npl]; exact hl
    have b1 : But p H H1 := fun x o e n => by rw [← eH1, upd_ne n]; exact e
    clear eH1
    refine ⟨fun σ' H' => ∃ v a b c d, σ' = [some (.ref p), some (.int m), v, none, none] ∧ H' p = some (.lst [.ref l, .int a, .int b, .int c, .int d]) ∧ H' l = some (.lst (ns.map V.int)) ∧ 0 ≤ a ∧ But p H H', ?_, ?_⟩
    · wtm_at "rd"
      refine ite2 (fun h1 => ?_) (fun h1 => ?_)
      · wtm_at "rd"
        refine ite2 (fun h2 => ?_) (fun h2 => ?_)
        · have h2 : a < (ns.map V.int).length := of_decide_eq_true h2
          obtain ⟨j, rfl⟩ : ∃ j : Nat, a = j := ⟨a.toNat, by omega⟩
          have hj : j < ns.length := by simpa using h2
          wtm_at "rd"
          refine ⟨_, _, _, _, rfl, rfl, SqL.of hl1, atI_cell hj, ?_⟩
          wtm_at "rd"
          generalize eH2 : upd H1 p _ = H2
          have hp2 : H2 p = some (.lst [.ref l, .int ((j : Int) + 1), .int b, .int (c + 1), .int d]) := by rw [← eH2]; exact upd_same
          have hl2 : H2 l = some (.lst (ns.map V.int)) := by rw [← eH2, upd_ne npl]; exact hl1
          have b2 : But p H H2 := fun x o e n => by rw [← eH2, upd_ne n]; exact b1 x o e n
          clear eH2
          refine ite2 (fun h3 => ?_) (fun h3 => ?_)
          · wtm_at "rd"
            exact ⟨_, _, _, _, _, rfl, upd_same, by rw [upd_ne npl]; exact hl2, by omega, b2.upd⟩
          · wtm_at "rd"
            exact ⟨_, _, _, _, _, rfl, upd_same, by rw [upd_ne npl]; exact hl2, by omega, b2.upd⟩
        · exact ⟨none, _, _, _, _, rfl, hp1, hl1, ha, b1⟩
      · wtm_at "rd"
        exact ⟨none, _, _, _, _, rfl, hp1, hl1, ha, b1⟩
    · rintro σ' H1 ⟨v, a, b, c, d, rfl, hp1, hl1, ha, b1⟩
      wtm_at "rd"
      refine ite2 (fun h1 => ?_) (fun h1 => ?_)
      · wtm_at "rd"
        exact k _ _ (Int.emod_nonneg _ (by omega)) (Int.emod_lt_of_pos _ hm) ⟨_, _, _, _, upd_same, by rw [upd_ne npl]; exact hl1, ha⟩ b1.upd
      · wtm_at "rd"
        exact k _ _ (Int.emod_nonneg _ (by omega)) (Int.emod_lt_of_pos _ hm) ⟨_, _, _, _, upd_same, by rw [upd_ne npl]; exact hl1, ha⟩ b1.upd
theorem ok__law_number (T : Txt K mg N) (G__law_draw : FnOk P w K mg base CX0 1 N.a__law_draw N.d__law_draw ["_law_pool_here", "_law_many"] spDraw) : FnOk P w K mg base CX0 2 N.a__law_number N.d__law_number ["_law_pool_here", "_law_parts"] spNum := by
  refine T.F__law_number.ok sc__law_number (fun vs H Q E h => ?_) (fun cdv A outer s H vs Q E hr h => ?_)
  all_goals unfold spNum at h
  · obtain ⟨p, l, ns, m, rfl, _⟩ := h
    rfl
  · obtain ⟨p, l, ns, m, rfl, hP, hm, hm2, k⟩ := h
    refine ⟨_, (pss_cons (ps_set (i := 2) sc__law_number.nd rfl (Or.inl rfl) (pe_call G__law_draw (hr.mono (by decide)) rfl T.g__law_draw T.k__law_draw T.b__law_draw .nil pass0 (pa_cons (pv 0) (pa_cons pe_int pa_nil))))
  (pss_cons (ps_if (pt_cmpR op_eq (pv 2) pe_int (nomark _))
  (pss_one (ps_ret (pe_op op_sub (pe_call G__law_draw (hr.mono (by decide)) rfl T.g__law_draw T.k__law_draw T.b__law_draw .nil pass0 (pa_cons (pv 0) (pa_cons pe_int pa_nil))) pe_int)))
  pss_nil)
  (pss_cons (ps_set (i := 3) sc__law_number.nd rfl (Or.inl rfl) pe_int)
  (pss_cons (ps_for PassesOwn.never rfl (pi_range1 (by rfl) T.z_range (pa_cons (pe_op op_add pe_int (pe_call G__law_draw (hr.mono (by decide)) rfl T.g__law_draw T.k__law_draw T.b__law_draw .nil pass0 (pa_cons (pv 0) (pa_cons (pv 1) pa_nil)))) pa_nil)) (pg_name (i := 4) sc__law_number.nd rfl (Or.inl rfl))
  (pss_one (ps_set (i := 3) sc__law_number.nd rfl (Or.inl rfl) (pe_op op_add (pe_op op_mul (pv 3) pe_int) (pe_call G__law_draw (hr.mono (by decide)) rfl T.g__law_draw T.k__law_draw T.b__law_draw .nil pass0 (pa_cons (pv 0) (pa_cons pe_int pa_nil)))))))
  (pss_cons (ps_if (pt_cmpR op_eq (pv 2) pe_int (nomark _))
  (pss_one (ps_ret (pe_un un_neg (pv 3))))
  pss_nil)
  (pss_one (ps_ret (pv 3)))))))), ?_⟩
    have big : 10000000 ≤ 10000000 ^ m := by
      calc 10000000 = 10000000 ^ 1 := by rw [Nat.pow_one]
        _ ≤ 10000000 ^ m := Nat.pow_le_pow_right (by decide) hm
    wtm_at "rd"
    refine draw_ok hP (by decide) (by decide) fun kd H1 k0 k1 hP1 b1 => ?_
    wtm_at "rd"
    refine ite2 (fun h1 => ?_) (fun h1 => ?_)
    · wtm_at "rd"
      refine draw_ok hP1 (by decide) (by decide) fun d H2 d0 d1 hP2 b2 => ?_
      wtm_at "rd"
      exact k _ _ (by show (d - 2).natAbs < _; omega) hP2 (b1.trans b2)
    · wtm_at "rd"
      refine draw_ok hP1 (by omega) (by omega) fun n H2 n0 n1 hP2 b2 => ?_
      wtm_at "rd"
      refine ⟨(by show -(2 ^ 62) ≤ 1 + n; omega), (by show 1 + n < 2 ^ 62; omega), ?_⟩
      refine for_range (lo := 0) (n := (1 + n).toNat) (fun i σ H3 => ∃ (z : Int) (v : Option V), σ = [some (.ref p), some (.int m), some (.int kd), some (.int z), v] ∧ Pool H3 p l ns ∧ But p H H3 ∧ 0 ≤ z ∧ z < ((10000000 ^ i : Nat) : Int)) ⟨0, none, rfl, hP2, b1.trans b2, by decide, by decide⟩ ?_ ?_
      · rintro i σ H3 hi ⟨z, v, rfl, hP3, b3, z0, z1⟩
        wtm_at "rd"
        refine draw_ok hP3 (by decide) (by decide) fun d H4 d0 d1 hP4 b4 => ?_
        wtm_at "rd"
        refine ⟨z * 10000000 + d, _, rfl, hP4, b3.trans b4, by omega, ?_⟩
        rw [Nat.pow_succ]
        omega
      · rintro σ H3 ⟨z, v, rfl, hP3, b3, z0, z1⟩
        have hz : z.natAbs < 10000000 ^ m := by
          have hle : (1 + n).toNat ≤ m := by omega
          have := Nat.pow_le_pow_right (n := 10000000) (by decide) hle
          omega
        wtm_at "rd"
        refine ite2 (fun h2 => ?_) (fun h2 => ?_)
        · wtm_at "rd"
          exact k _ _ (by show (-z).natAbs < _; omega) hP3 b3
        · wtm_at "rd"
          exact k _ _ hz hP3 b3
theorem ok__law_is_integer (T : Txt K mg N)  : FnOk P w K mg base CX0 1 N.a__law_is_integer N.d__law_is_integer ["_law_value"] (spWhole K) := by
  refine T.F__law_is_integer.ok sc__law_is_integer (fun vs H Q E h => ?_) (fun cdv A outer s H vs Q E hr h => ?_)
  all_goals unfold spWhole at h
  · obtain ⟨x, rfl, _⟩ := h
    rfl
  · obtain ⟨x, rfl, ⟨t, ht, k1, k2⟩, k⟩ := h
    refine ⟨_, (pss_one (ps_ret (pe_and (pe_callB call_isi (by rfl) T.z_isinstance (by decide +kernel) (pa_cons (pv 0) (pa_cons (pe_bltn (v := .ty "int") (by rfl) T.z_int (by decide +kernel) rfl) pa_nil))) (pe_one (pe_not (pe_callB call_isi (by rfl) T.z_isinstance (by decide +kernel) (pa_cons (pv 0) (pa_cons (pe_bltn (v := .ty "bool") (by rfl) T.z_bool (by decide +kernel) rfl) pa_nil)))))))), ?_⟩
    refine ⟨_, rfl, _, _, _, _, _, rfl, .ty "int", ht, k1, _, rfl, ?_⟩
    cases x with
    | int i => exact iteT ⟨_, rfl, _, _, _, _, _, rfl, .ty "bool", ht, k2, _, rfl, k⟩
    | bl b => exact iteT ⟨_, rfl, _, _, _, _, _, rfl, .ty "bool", ht, k2, _, rfl, k⟩
    | _ => exact iteF k
theorem ok__law_common (T : Txt K mg N)  : FnOk P w K mg base CX0 1 N.a__law_common N.d__law_common ["_law_one", "_law_other"] spCommon := by
  refine T.F__law_common.ok sc__law_common (fun vs H Q E h => ?_) (fun cdv A outer s H vs Q E hr h => ?_)
  all_goals unfold spCommon at h
  · obtain ⟨a, b, rfl, _⟩ := h
    rfl
  · obtain ⟨a, b, rfl, hb, h1, h2, k⟩ := h
    refine ⟨_, (C8.pss_cut (ps_if (pt_cmpR op_lt (pv 0) pe_int (nomark _))
  (pss_one (ps_set (i := 0) sc__law_common.nd rfl (Or.inl rfl) (pe_un un_neg (pv 0))))
  pss_nil)
  (pss_cons (ps_for PassesOwn.never rfl (pi_range1 (by rfl) T.z_range (pa_cons pe_int pa_nil)) (pg_name (i := 2) sc__law_common.nd rfl (Or.inl rfl))
  (pss_cons (ps_if (pt_cmpR op_eq (pv 1) pe_int (nomark _))
  (pss_one ps_break)
  pss_nil)
  (pss_cons (ps_set (i := 3) sc__law_common.nd rfl (Or.inl rfl) (pe_op op_mod (pe_callTy call_int1 (by rfl) T.z_int (by decide +kernel) (pa_cons (pv 0) pa_nil)) (pv 1)))
  (pss_cons (ps_set (i := 0) sc__law_common.nd rfl (Or.inl rfl) (pv 1))
  (pss_one (ps_set (i := 1) sc__law_common.nd rfl (Or.inl rfl) (pv 3)))))))
  (pss_one (ps_ret (pv 0))))), ?_⟩
    refine ⟨fun σ' H' => H' = H ∧ σ' = [some (.int (a.natAbs : Int)), some (.int b), none, none], ?_, ?_⟩
    · wtm_at "rd"
      refine ite2 (fun h => ?_) (fun h => ?_)
      · have h : a < 0 := of_decide_eq_true h
        wtm_at "rd"
        show [some (V.int (-a)), _, _, _] = _
        rw [show -a = (a.natAbs : Int) by omega]
      · have h : ¬ a < 0 := fun z => h (decide_eq_true z)
        refine ⟨rfl, ?_⟩
        show [some (V.int a), _, _, _] = _
        rw [show (a.natAbs : Int) = a by omega]
    · rintro σ' H' ⟨rfl, rfl⟩
      wtm_at "rd"
      refine ⟨(by decide), (by decide), ?_⟩
      refine for_range (lo := 0) (n := 2000) (fun i σ H3 => H3 = H' ∧ ∃ (x y : Int) (v u : Option V), σ = [some (.int x), some (.int y), v, u] ∧ Euc (Nat.gcd a.natAbs b.natAbs) i x y)
        ⟨rfl, _, _, none, none, rfl, ⟨by omega, hb, by rw [Int.natAbs_natCast], .inl ⟨rfl, by rw [Int.natAbs_natCast]; exact h1, h2⟩⟩⟩ ?_ ?_
      · rintro i σ H3 hi ⟨rfl, x, y, v, u, rfl, e⟩
        wtm_at "rd"
        refine ite2 (fun h => ?_) (fun h => ?_)
        · have h : y = 0 := V.int.inj (of_decide_eq_true h)
          subst h
          wtm_at "rd"
          rw [e.done]
          exact k
        · have h : y ≠ 0 := fun z => h (decide_eq_true (by rw [z]))
          have hy := e.y0
          wtm_at "rd"
          exact ⟨_, _, _, _, rfl, e.step h⟩
      · rintro σ H3 ⟨rfl, x, y, v, u, rfl, e⟩
        have hy := e.last
        subst hy
        wtm_at "rd"
        rw [e.done]
        exact k
theorem ok__law_is_share (T : Txt K mg N) (G__law_common : FnOk P w K mg base CX0 1 N.a__law_common N.d__law_common ["_law_one", "_law_other"] spCommon) (G__law_is_integer : FnOk P w K mg base CX0 1 N.a__law_is_integer N.d__law_is_integer ["_law_value"] (spWhole K)) : FnOk P w K mg base CX0 2 N.a__law_is_share N.d__law_is_share ["_law_value", "_law_top", "_law_bottom"] (spIsShare N.C_Share) := by
  refine T.F__law_is_share.ok sc__law_is_share (fun vs H Q E h => ?_) (fun cdv A outer s H vs Q E hr h => ?_)
  all_goals unfold spIsShare at h
  · obtain ⟨x, t, b, p, q, rfl, _⟩ := h
    rfl
  · obtain ⟨x, t, b, p, q, rfl, ⟨dx, hx⟩, hq, hc, hg, b1, b2, b3, b4, k⟩ := h
    refine ⟨_, (pss_cons (ps_if (PW.pt (pw_or (pt_not (pt_val (pe_callB call_isi (by rfl) T.z_isinstance (by decide +kernel) (pa_cons (pv 0) (pa_cons (pe_glob (v := .ref N.C_Share) rfl T.g_Share rfl) pa_nil))))) (pw_or (pt_not (pt_val (pe_call G__law_is_integer (hr.mono (by decide)) rfl T.g__law_is_integer T.k__law_is_integer T.b__law_is_integer .nil pass0 (pa_cons (pe_fld (pv 0) rfl) pa_nil)))) (pw_or1 (pt_not (pt_val (pe_call G__law_is_integer (hr.mono (by decide)) rfl T.g__law_is_integer T.k__law_is_integer T.b__law_is_integer .nil pass0 (pa_cons (pe_fld (pv 0) rfl) pa_nil))))))))
  (pss_one (ps_ret pe_bl))
  pss_nil)
  (pss_cons (ps_if (PW.pt (pw_or (pt_cmpR op_lt (pe_fld (pv 0) rfl) pe_int (nomark _)) (pw_or1 (pt_cmpR op_ne (pe_op op_mulW (pe_fld (pv 0) rfl) (pv 2)) (pe_op op_mulW (pe_fld (pv 0) rfl) (pv 1)) (nomark _)))))
  (pss_one (ps_ret pe_bl))
  pss_nil)
  (pss_one (ps_ret (pe_cmpR op_eq (pe_call G__law_common (hr.mono (by decide)) rfl T.g__law_common T.k__law_common T.b__law_common .nil pass0 (pa_cons (pe_fld (pv 0) rfl) (pa_cons (pe_fld (pv 0) rfl) pa_nil))) pe_int (nomark _)))))), ?_⟩
    have c1 := T.ow_Share.cl
    have c2 := T.na_Share_top
    have c3 := T.na_Share_bottom
    refine ⟨_, rfl, _, _, _, _, _, rfl, .own _, T.ow_Share.ty hx, kit_self, ?_⟩
    wtm_at "rd"
    refine whole_ok (.int _) ?_
    wtm_at "rd"
    refine whole_ok (.int _) ?_
    wtm_at "rd"
    rw [decide_eq_false (show ¬ q < 1 by omega)]
    wtm_at "rd"
    refine ⟨wide_mul b1 b4 (by decide) (by decide) (by decide), ?_⟩
    wtm_at "rd"
    refine ⟨wide_mul b2 b3 (by decide) (by decide) (by decide), ?_⟩
    refine ⟨rfl, _, rfl, ?_⟩
    refine iteNS (congrArg V.int hc) ?_
    wtm_at "rd"
    refine common_ok (by omega) b1 b2 ?_
    rw [hg]
    exact ⟨rfl, k⟩
theorem ok_law (T : Txt K mg N) (G__law_is_share : FnOk P w K mg base CX0 2 N.a__law_is_share N.d__law_is_share ["_law_value", "_law_top", "_law_bottom"] (spIsShare N.C_Share)) (G_mean : FnOk P w K mg base (L2.CX P w) 6 N.a_mean N.d_mean ["shares"] (spMean K N.C_Share N.C_BadShare)) (G__law_draw : FnOk P w K mg base CX0 1 N.a__law_draw N.d__law_draw ["_law_pool_here", "_law_many"] spDraw) (G_Share___init__ : FnOk P w K mg base (L2.CX P w) 2 N.a_Share___init__ N.d_Share___init__ ["self", "top", "bottom"] (spShare K N.C_Share N.C_BadShare)) (G__law_number : FnOk P w K mg base CX0 2 N.a__law_number N.d__law_number ["_law_pool_here", "_law_parts"] spNum) (G__law_pool : FnOk P w K mg base CX0 1 N.a__law_pool N.d__law_pool ["_law_script"] (spPool K)) (G_Share___eq__ : FnOk P w K mg base CX0 2 N.a_Share___eq__ N.d_Share___eq__ ["self", "other"] (spEq K N.C_Share)) : FnOk P w K mg base CX0 7 N.a_law N.d_law ["_law_script"] (spLaw K) := by
  refine T.F_law.ok sc_law (fun vs H Q E h => ?_) (fun cdv A outer s H vs Q E hr h => ?_)
  all_goals unfold spLaw at h
  · obtain ⟨a, ns, rfl, _⟩ := h
    rfl
  · obtain ⟨a, ns, rfl, hS, hn, k⟩ := h
    refine ⟨_, (pss_cons (ps_set (i := 1) sc_law.nd rfl (Or.inl rfl) (pe_call G__law_pool (hr.mono (by decide)) rfl T.g__law_pool T.k__law_pool T.b__law_pool .nil pass0 (pa_cons (pv 0) pa_nil)))
  (pss_cons (ps_set (i := 2) sc_law.nd rfl (Or.inl rfl) (pe_lst pa_nil))
  (pss_cons (ps_set (i := 3) sc_law.nd rfl (Or.inl rfl) pe_int)
  (pss_cons (ps_set (i := 4) sc_law.nd rfl (Or.inl rfl) pe_int)
  (pss_cons (ps_for PassesOwn.never rfl (pi_range1 (by rfl) T.z_range (pa_cons (pe_call G__law_draw (hr.mono (by decide)) rfl T.g__law_draw T.k__law_draw T.b__law_draw .nil pass0 (pa_cons (pv 1) (pa_cons pe_int pa_nil))) pa_nil)) (pg_name (i := 5) sc_law.nd rfl (Or.inl rfl))
  (pss_cons (ps_set (i := 6) sc_law.nd rfl (Or.inl rfl) (pe_call G__law_number (hr.mono (by decide)) rfl T.g__law_number T.k__law_number T.b__law_number .nil pass0 (pa_cons (pv 1) (pa_cons pe_int pa_nil))))
  (pss_cons (ps_set (i := 7) sc_law.nd rfl (Or.inl rfl) (pe_op op_add pe_int (pe_call G__law_draw (hr.mono (by decide)) rfl T.g__law_draw T.k__law_draw T.b__law_draw .nil pass0 (pa_cons (pv 1) (pa_cons pe_int pa_nil)))))
  (C8.pss_cut (ps_if (pt_cmpR op_eq (pe_call G__law_draw (hr.mono (by decide)) rfl T.g__law_draw T.k__law_draw T.b__law_draw .nil pass0 (pa_cons (pv 1) (pa_cons pe_int pa_nil))) pe_int (nomark _))
  (pss_cons (ps_expr (pe_bm PySem.F.plainAttrs_list PySem.F.slot_list_append PySem.F.type_list_append mt_append (pv 2) (pa_cons (pv 6) pa_nil)))
  (pss_one (ps_set (i := 7) sc_law.nd rfl (Or.inl rfl) pe_int)))
  (pss_one (ps_expr (pe_bm PySem.F.plainAttrs_list PySem.F.slot_list_append PySem.F.type_list_append mt_append (pv 2) (pa_cons (pe_make T.mk_Share G_Share___init__ (hr.mono (by decide)) rfl T.g_Share T.b_Share___init__ .nil passL (pa_cons (pv 6) (pa_cons (pv 7) pa_nil))) pa_nil)))))
  (pss_cons (ps_set (i := 3) sc_law.nd rfl (Or.inl rfl) (pe_op op_add (pe_op op_mul (pv 3) (pv 7)) (pe_op op_mul (pv 6) (pv 4))))
  (pss_one (ps_set (i := 4) sc_law.nd rfl (Or.inl rfl) (pe_op op_mul (pv 4) (pv 7)))))))))
  (pss_cons (ps_set (i := 8) sc_law.nd rfl (Or.inl rfl) (pe_callTy call_list_of (by rfl) T.z_list (by decide +kernel) (pa_cons (pv 2) pa_nil)))
  (pss_cons (ps_if (pt_cmpR op_eq (pe_callB call_len_seq (by rfl) T.z_len (by decide +kernel) (pa_cons (pv 2) pa_nil)) pe_int (nomark _))
  (pss_cons (ps_try_only (Wout := fun _ _ _ _ => False) rfl rfl ⟨rfl, by decide, Or.inl T.g_BadShare⟩ takes0
  (fun W pn xe tk _ => (pss_one (ps_expr (pe_callS G_mean (hr.mono (by decide)) rfl T.g_mean T.k_mean T.b_mean (fun σ => passAt tk σ) (pa_cons (pv 8) pa_nil)))))
  (fun a oe cls d pn hz hf => (pss_one (ps_ret (pe_cmpR op_eq (pe_callB call_len_seqS (by rfl) T.z_len (by decide +kernel) (pa_cons (pv 8) pa_nil)) pe_int (nomark _))))))
  (pss_one (ps_ret pe_bl)))
  pss_nil)
  (pss_cons (ps_if (PW.pt (pw_or (pt_not (pt_val (pe_call G__law_is_share (hr.mono (by decide)) rfl T.g__law_is_share T.k__law_is_share T.b__law_is_share .nil pass0 (pa_cons (pe_call G_mean (hr.mono (by decide)) rfl T.g_mean T.k_mean T.b_mean .nil passL (pa_cons (pv 8) pa_nil)) (pa_cons (pv 3) (pa_cons (pe_op op_mul (pv 4) (pe_callB call_len_seq (by rfl) T.z_len (by decide +kernel) (pa_cons (pv 2) pa_nil))) pa_nil)))))) (pw_or1 (pt_cmpR op_ne (pe_callB call_len_seq (by rfl) T.z_len (by decide +kernel) (pa_cons (pv 8) pa_nil)) (pe_callB call_len_seq (by rfl) T.z_len (by decide +kernel) (pa_cons (pv 2) pa_nil)) (nomark _)))))
  (pss_one (ps_ret pe_bl))
  pss_nil)
  (pss_cons (ps_expr (pe_bm0 PySem.F.plainAttrs_list PySem.F.slot_list_reverse PySem.F.type_list_reverse mt_reverse (pv 8)))
  (pss_one (ps_ret (pe_and (pe_call G__law_is_share (hr.mono (by decide)) rfl T.g__law_is_share T.k__law_is_share T.b__law_is_share .nil pass0 (pa_cons (pe_call G_mean (hr.mono (by decide)) rfl T.g_mean T.k_mean T.b_mean .nil passL (pa_cons (pv 8) pa_nil)) (pa_cons (pv 3) (pa_cons (pe_op op_mul (pv 4) (pe_callB call_len_seq (by rfl) T.z_len (by decide +kernel) (pa_cons (pv 2) pa_nil))) pa_nil)))) (pe_one (pe_cmpR (OpR.or op_eq (op_eqS T.m_Share___eq__ T.i_Share___eq__ G_Share___eq__ (hr.mono (by decide)) T.b_Share___eq__ pass0 ty_looks)) (pe_ix ix_list (pv 8) pe_int (fun _ _ => rfl)) (pe_ix ix_list (pv 2) (pe_op op_sub (pe_callB call_len_seq (by rfl) T.z_len (by decide +kernel) (pa_cons (pv 2) pa_nil)) pe_int) (fun _ _ => rfl)) (nomark _))))))))))))))), ?_⟩
    wtm_at "rd"
    refine pool_ok hS fun p l H1 np nl hP1 s1 => ?_
    wtm_at "rd"
    refine ⟨(by show 0 ≤ sizeLine; decide), fun li hli => ?_⟩
    have nlip : li ≠ p := hP1.neq hli
    have nlil : li ≠ l := hP1.neql hli
    replace hP1 := hP1.same (same_new (o := .lst []) hli)
    wtm_at "rd"
    refine draw_ok hP1 (by decide) (by decide) fun n H2 n0 n1 hP2 b2 => ?_
    have hli2 := b2 _ _ upd_same nlip
    wtm_at "rd"
    refine ⟨(by omega), (by omega), ?_⟩
    refine for_range (lo := 0) (n := n.toNat) (fun i σ H3 => ∃ (xs : List V) (its : List (Int × Int)) (v1 v2 v3 : Option V), σ = [some (.ref a), some (.ref p), some (.ref li), some (.int (smT its)), some (.int (prB its)), v1, v2, v3, none] ∧ Pool H3 p l ns ∧ H3 li = some (.lst xs) ∧ Paired (Itm N.C_Share p H3) xs its ∧ xs.length = i ∧ 1 ≤ prB its ∧ (prB its).natAbs < 2 ^ (5 * i + 1) ∧ (smT its).natAbs < 2 ^ (50 + 6 * i))
      ⟨[], [], none, none, none, rfl, hP2, hli2, .nil, rfl, by decide, by decide, by decide⟩ ?_ ?_
    · rintro i σ H3 hi ⟨xs, its, v1, v2, v3, rfl, hP3, hl3, hI, hx, hp1, hpb, htb⟩
      wtm_at "rd"
      refine num_ok 2 hP3 (by decide) (by decide) fun ia H4 ba hP4 b4 => ?_
      rw [show 10000000 ^ 2 = 100000000000000 by decide] at ba
      wtm_at "rd"
      refine draw_ok hP4 (by decide) (by decide) fun ib H5 ib0 ib1 hP5 b5 => ?_
      have hl5 := b5 _ _ (b4 _ _ hl3 nlip) nlip
      have hI5 : Paired (Itm N.C_Share p H5) xs its := Paired.mapP hI fun x y h => (h.but b4).but b5
      wtm_at "rd"
      refine ⟨fun σ' H' => ∃ (x : V) (bb : Int), σ' = [some (.ref a), some (.ref p), some (.ref li), some (.int (smT its)), some (.int (prB its)), some (.int (0 + i)), some (.int ia), some (.int bb), none] ∧ Pool H' p l ns ∧ H' li = some (.lst (xs ++ [x])) ∧ Paired (Itm N.C_Share p H') (xs ++ [x]) (its ++ [(ia, bb)]) ∧ 1 ≤ bb ∧ bb ≤ 30, ?_, ?_⟩
      · wtm_at "rd"
        refine draw_ok hP5 (by decide) (by decide) fun ic H6 ic0 ic1 hP6 b6 => ?_
        have hl6 := b6 _ _ hl5 nlip
        have hI6 : Paired (Itm N.C_Share p H6) xs its := Paired.mapP hI5 fun x y h => h.but b6
        wtm_at "rd"
        refine ite2 (fun h => ?_) (fun h => ?_)
        · wtm_at "rd"
          refine ⟨.inl ⟨rfl, _, SqL.of hl6⟩, ?_⟩
          wtm_at "rd"
          refine ⟨_, _, _, rfl, rfl, hl6, small1000 (by omega), ?_⟩
          wtm_at "rd"
          refine ⟨.int ia, 1, rfl, ?_, upd_same, ?_, by decide, by decide⟩
          · exact hP6.upd nlip nlil
          · have hX : Itm N.C_Share p H6 (.int ia) (ia, 1) := ⟨.inl ⟨by rw [shT_one], by rw [shB_one]⟩, (fun z => nomatch z), Int.le_refl _, (show (1 : Int) ≤ 30 by decide), ba⟩
            exact (Paired.mapP hI6 fun x y h => h.upd hl6).snoc (hX.upd hl6)
        · wtm_at "rd"
          refine ⟨.inl ⟨rfl, _, SqL.of hl6⟩, ?_⟩
          wtm_at "rd"
          intro x dx nx ndx nex
          refine share_ok ia (1 + ib) (by omega) (Nat.lt_of_lt_of_le ba (Nat.le_trans (by decide) (Nat.pow_le_pow_right (by decide) (show 50 ≤ 4000 by decide)))) (Nat.lt_of_lt_of_le (show (1 + ib).natAbs < 2 ^ 5 by omega) (Nat.pow_le_pow_right (by decide) (by decide))) nx ndx fun H7 hS s7 => ⟨rfl, ?_⟩
          have nxp : x ≠ p := hP6.neq nx
          have hl7 := s7 _ _ hl6
          wtm_at "rd"
          refine ⟨_, _, _, rfl, rfl, hl7, small1000 (by omega), ?_⟩
          refine ⟨.ref x, 1 + ib, rfl, (hP6.same s7).upd nlip nlil, upd_same, ?_, by omega, by omega⟩
          have hX : Itm N.C_Share p H7 (.ref x) (ia, 1 + ib) := ⟨hS.num, fun z => nxp (by cases z; rfl), by omega, by omega, ba⟩
          exact (Paired.mapP hI6 fun x y h => (h.same s7).upd hl7).snoc (hX.upd hl7)
      · rintro σ' H6 ⟨x, bb, rfl, hP6, hl6, hI6, bb1, bb30⟩
        wtm_at "rd"
        have e1 : smT (its ++ [(ia, bb)]) = smT its * bb + ia * prB its := by rw [smT_app, prB_one, smT_one]
        have e2 : prB (its ++ [(ia, bb)]) = prB its * bb := by rw [prB_app, prB_one]
        have b5 : bb.natAbs < 2 ^ 5 := by omega
        have b47 : ia.natAbs < 2 ^ 47 := by omega
        refine ⟨xs ++ [x], its ++ [(ia, bb)], some (.int (0 + i)), some (.int ia), some (.int bb), ?_, hP6, hl6, hI6, by rw [List.length_append, hx]; rfl, by rw [e2]; exact pos_mul hp1 bb1, ?_, ?_⟩
        · rw [e1, e2]; rfl
        · rw [e2]; exact pow_lift (wide_lt hpb b5) (by omega)
        · rw [e1]
          have a1 := pow_lift (wide_lt htb b5) (show 50 + 6 * i + 5 ≤ 50 + 6 * i + 5 from Nat.le_refl _)
          have a2 := pow_lift (wide_lt b47 hpb) (show 47 + (5 * i + 1) ≤ 50 + 6 * i + 5 by omega)
          exact pow_lift (add_lt a1 a2) (by omega)
    · rintro σ H3 ⟨xs, its, v1, v2, v3, rfl, hP3, hl3, hI, hx, hp1, hpb, htb⟩
      wtm_at "rd"
      intro la hla
      have nla : la ≠ li := (ne_of_none hl3 hla).symm
      have s4 := same_new (o := .lst xs) hla
      have hl4 := s4 _ _ hl3
      have hla4 : (upd H3 la (.lst xs)) la = some (.lst xs) := upd_same
      have hI4 : Paired (Itm N.C_Share p (upd H3 la (.lst xs))) xs its := Paired.mapP hI fun x y h => h.same s4
      generalize upd H3 la (.lst xs) = H4 at *
      wtm_at "rd"
      refine ite2 (fun h => ?_) (fun h => ?_)
      · have h : xs = [] := by
          have e : (xs.length : Int) = 0 := V.int.inj (of_decide_eq_true h)
          exact List.length_eq_zero_iff.mp (by omega)
        subst h
        wtm_at "rd"
        refine mean_bad (p := p) (SqL.of hla4) ?_
        refine ⟨true, T.te_BadShare, fun _ a ha => ?_, fun q => Bool.noConfusion q⟩
        wtm_at "rd"
        exact k _
      · have h : xs ≠ [] := fun e => h (by subst e; rfl)
        have h8 : xs.length ≤ 8 := by omega
        have h1 : 1 ≤ xs.length := by
          cases xs with
          | nil => exact absurd rfl h
          | cons a b => exact Nat.succ_le_succ (Nat.zero_le _)
        have bt : (smT its).natAbs < 2 ^ 400 := pow_lift htb (by omega)
        have bl : ((xs.length : Nat) : Int).natAbs < 2 ^ 4 := by rw [Int.natAbs_natCast]; exact Nat.lt_of_le_of_lt h8 (by decide)
        have bp : (prB its * (xs.length : Int)).natAbs < 2 ^ 400 := pow_lift (wide_lt hpb bl) (by omega)
        wtm_at "rd"
        refine mean_ok (SqL.of hla4) hI4 h8 h fun z H5 u v hz v1 huv bu bv s5 => ?_
        have hl5 := s5 _ _ hl4
        have hla5 := s5 _ _ hla4
        have hI5 : Paired (Itm N.C_Share p H5) xs its := Paired.mapP hI4 fun x y h => h.same s5
        wtm_at "rd"
        refine isShare_ok (by omega) hz (cross_of (by omega) huv) (pow_lift bu (by decide)) (pow_lift bv (by decide)) bt bp ?_
        wtm_at "rd"
        refine iteNS rfl ?_
        wtm_at "rd"
        refine ⟨.inl ⟨rfl, _, SqL.of hla5⟩, ?_⟩
        refine ⟨_, _, rfl, rfl, hla5, ?_⟩
        have hI6 : Paired (Itm N.C_Share p (upd H5 la (.lst xs.reverse))) xs its := Paired.mapP hI5 fun x y h => h.upd hla5
        have hl6 : (upd H5 la (.lst xs.reverse)) li = some (.lst xs) := by rw [upd_ne nla.symm]; exact hl5
        have hla6 : (upd H5 la (.lst xs.reverse)) la = some (.lst xs.reverse) := upd_same
        generalize upd H5 la (.lst xs.reverse) = H6 at *
        wtm_at "rd"
        refine mean_ok (SqL.of hla6) (paired_rev hI6) (by rw [List.length_reverse]; exact h8) (fun z => h (List.reverse_eq_nil_iff.mp z)) fun z H7 u v hz v1 huv bu bv s7 => ?_
        rw [smT_rev, prB_rev, List.length_reverse] at huv
        have hl7 := s7 _ _ hl6
        have hla7 := s7 _ _ hla6
        have hI7 : Paired (Itm N.C_Share p H7) xs its := Paired.mapP hI6 fun x y h => h.same s7
        wtm_at "rd"
        refine isShare_ok (by omega) hz (cross_of (by omega) huv) (pow_lift bu (by decide)) (pow_lift bv (by decide)) bt bp ?_
        obtain ⟨ys, y, rfl⟩ : ∃ ys y, xs = ys ++ [y] := ⟨xs.dropLast, xs.getLast h, (List.dropLast_concat_getLast h).symm⟩
        have e0 : atI (ys ++ [y]).reverse 0 = some y := atI_nat (j := 0) (by simp)
        have e1 : atI (ys ++ [y]) (((ys ++ [y]).length : Int) - 1) = some y := by
          have ee : ((ys ++ [y]).length : Int) - 1 = (ys.length : Int) := by simp
          rw [ee]
          exact atI_nat (by simp)
        obtain ⟨ab, _, I⟩ := paired_get (i := ys.length) (x := y) hI7 (by simp)
        wtm_at "rd"
        refine ⟨_, _, _, _, rfl, rfl, SqL.of hla7, e0, ?_⟩
        wtm_at "rd"
        refine ⟨_, _, _, _, rfl, rfl, SqL.of hl7, e1, ?_⟩
        rcases I.num with ⟨ey, _⟩ | ⟨c, ey, hc⟩
        · subst ey
          refine Or.inl ⟨rfl, ?_⟩
          rw [decide_eq_true rfl]
          exact k _
        · subst ey
          obtain ⟨dc, hc'⟩ := id hc
          refine Or.inr ⟨_, _, _, _, rfl, hc', T.ow_Share.ty hc', T.nf_Share, eqN_ok hc hc.num fun b hb => ?_⟩
          rw [hb.mpr ⟨rfl, rfl⟩]
          exact k _
end
end My
namespace My
open PySem L2
theorem all_mk {l : PySem.W.OpenLaw} {w : World} {K : PySem.W.Frag} {h : Heap} {mg : Str → Option Value} {fa : Addr} (X : K.In h) (G : h.Ns mainGlobals mg) (hfa : mg "law" = some (.ref fa))
    {a_is_whole : Addr}
    {oc_is_whole kV_is_whole dc_is_whole pm_is_whole cd_is_whole ct_is_whole : Value} {od_is_whole an_is_whole : Option Addr} {sl_is_whole : Array (Option Value)}
    {a_Share___init__ : Addr}
    {td_Share___init__ : Addr} {to_Share___init__ : Value} {tq_Share___init__ : Option Addr} {tn_Share___init__ : Nat} {tl_Share___init__ : Array (Option Value)}
    {oc_Share___init__ kV_Share___init__ dc_Share___init__ pm_Share___init__ cd_Share___init__ ct_Share___init__ : Value} {od_Share___init__ an_Share___init__ : Option Addr} {sl_Share___init__ : Array (Option Value)}
    {tk_Share___init___0 : Tok}
    {a_Share___eq__ : Addr}
    {oc_Share___eq__ kV_Share___eq__ dc_Share___eq__ pm_Share___eq__ cd_Share___eq__ ct_Share___eq__ : Value} {od_Share___eq__ an_Share___eq__ : Option Addr} {sl_Share___eq__ : Array (Option Value)}
    {a_Share___add__ : Addr}
    {oc_Share___add__ kV_Share___add__ dc_Share___add__ pm_Share___add__ cd_Share___add__ ct_Share___add__ : Value} {od_Share___add__ an_Share___add__ : Option Addr} {sl_Share___add__ : Array (Option Value)}
    {a_Share___radd__ : Addr}
    {oc_Share___radd__ kV_Share___radd__ dc_Share___radd__ pm_Share___radd__ cd_Share___radd__ ct_Share___radd__ : Value} {od_Share___radd__ an_Share___radd__ : Option Addr} {sl_Share___radd__ : Array (Option Value)}
    {a_Share___mul__ : Addr}
    {oc_Share___mul__ kV_Share___mul__ dc_Share___mul__ pm_Share___mul__ cd_Share___mul__ ct_Share___mul__ : Value} {od_Share___mul__ an_Share___mul__ : Option Addr} {sl_Share___mul__ : Array (Option Value)}
    {a_Share___rmul__ : Addr}
    {oc_Share___rmul__ kV_Share___rmul__ dc_Share___rmul__ pm_Share___rmul__ cd_Share___rmul__ ct_Share___rmul__ : Value} {od_Share___rmul__ an_Share___rmul__ : Option Addr} {sl_Share___rmul__ : Array (Option Value)}
    {a_is_number : Addr}
    {oc_is_number kV_is_number dc_is_number pm_is_number cd_is_number ct_is_number : Value} {od_is_number an_is_number : Option Addr} {sl_is_number : Array (Option Value)}
    {a_as_share : Addr}
    {oc_as_share kV_as_share dc_as_share pm_as_share cd_as_share ct_as_share : Value} {od_as_share an_as_share : Option Addr} {sl_as_share : Array (Option Value)}
    {a_mean : Addr}
    {oc_mean kV_mean dc_mean pm_mean cd_mean ct_mean : Value} {od_mean an_mean : Option Addr} {sl_mean : Array (Option Value)}
    {a__law_pool : Addr}
    {oc__law_pool kV__law_pool dc__law_pool pm__law_pool cd__law_pool ct__law_pool : Value} {od__law_pool an__law_pool : Option Addr} {sl__law_pool : Array (Option Value)}
    {a__law_draw : Addr}
    {oc__law_draw kV__law_draw dc__law_draw pm__law_draw cd__law_draw ct__law_draw : Value} {od__law_draw an__law_draw : Option Addr} {sl__law_draw : Array (Option Value)}
    {a__law_number : Addr}
    {oc__law_number kV__law_number dc__law_number pm__law_number cd__law_number ct__law_number : Value} {od__law_number an__law_number : Option Addr} {sl__law_number : Array (Option Value)}
    {a__law_is_integer : Addr}
    {oc__law_is_integer kV__law_is_integer dc__law_is_integer pm__law_is_integer cd__law_is_integer ct__law_is_integer : Value} {od__law_is_integer an__law_is_integer : Option Addr} {sl__law_is_integer : Array (Option Value)}
    {a__law_common : Addr}
    {oc__law_common kV__law_common dc__law_common pm__law_common cd__law_common ct__law_common : Value} {od__law_common an__law_common : Option Addr} {sl__law_common : Array (Option Value)}
    {a__law_is_share : Addr}
    {oc__law_is_share kV__law_is_share dc__law_is_share pm__law_is_share cd__law_is_share ct__law_is_share : Value} {od__law_is_share an__law_is_share : Option Addr} {sl__law_is_share : Array (Option Value)}
    {a_law : Addr}
    {oc_law kV_law dc_law pm_law cd_law ct_law : Value} {od_law an_law : Option Addr} {sl_law : Array (Option Value)}
    {C_SeatError : Addr}
    {C_BadShare : Addr}
    {C_Share : Addr}
    {fo_add ro_add : Option Value}
    {fo_mul ro_mul : Option Value}
    (g_SeatError : PySem.W.nsIn K mainGlobals "SeatError" = some (some (.ref C_SeatError)))
    (g_BadShare : PySem.W.nsIn K mainGlobals "BadShare" = some (some (.ref C_BadShare)))
    (g_Share : PySem.W.nsIn K mainGlobals "Share" = some (some (.ref C_Share)))
    (z_isinstance : PySem.W.nsIn K mainGlobals "isinstance" = some none)
    (z_bool : PySem.W.nsIn K mainGlobals "bool" = some none)
    (z_int : PySem.W.nsIn K mainGlobals "int" = some none)
    (z_len : PySem.W.nsIn K mainGlobals "len" = some none)
    (z_list : PySem.W.nsIn K mainGlobals "list" = some none)
    (z_range : PySem.W.nsIn K mainGlobals "range" = some none)
    (g_is_whole : PySem.W.nsIn K mainGlobals "is_whole" = some (some (.ref a_is_whole)))
    (l_is_whole : K.lookup a_is_whole = some ⟨oc_is_whole, od_is_whole, .func (PySem.W.fnOf "is_whole" "is_whole" (defArgs s_is_whole) (defBody s_is_whole) (defScope s_is_whole) .none kV_is_whole dc_is_whole pm_is_whole an_is_whole cd_is_whole ct_is_whole), sl_is_whole⟩)
    (c_is_whole : PySem.W.codeIn K cd_is_whole "is_whole" = true)
    (k_is_whole : PySem.W.keepIn K (.ref a_is_whole) = true)
    (m_Share___init__ : PySem.W.findIn K (.ref C_Share) "__init__" = some (some (.ref a_Share___init__)))
    (i_Share___init__ : PySem.W.isFn K (.ref a_Share___init__) = true)
    (l_Share___init__ : K.lookup a_Share___init__ = some ⟨oc_Share___init__, od_Share___init__, .func (PySem.W.fnOf "__init__" "Share.__init__" (defArgs s_Share___init__) (defBody s_Share___init__) (defScope s_Share___init__) (.ref td_Share___init__) kV_Share___init__ dc_Share___init__ pm_Share___init__ an_Share___init__ cd_Share___init__ ct_Share___init__), sl_Share___init__⟩)
    (c_Share___init__ : PySem.W.codeIn K cd_Share___init__ "Share.__init__" = true)
    (k_Share___init__ : PySem.W.keepIn K (.ref a_Share___init__) = true)
    (t_Share___init__ : K.lookup td_Share___init__ = some ⟨to_Share___init__, tq_Share___init__, .seq (#[.int 1 tk_Share___init___0]) tn_Share___init__, tl_Share___init__⟩)
    (m_Share___eq__ : PySem.W.findIn K (.ref C_Share) "__eq__" = some (some (.ref a_Share___eq__)))
    (i_Share___eq__ : PySem.W.isFn K (.ref a_Share___eq__) = true)
    (l_Share___eq__ : K.lookup a_Share___eq__ = some ⟨oc_Share___eq__, od_Share___eq__, .func (PySem.W.fnOf "__eq__" "Share.__eq__" (defArgs s_Share___eq__) (defBody s_Share___eq__) (defScope s_Share___eq__) .none kV_Share___eq__ dc_Share___eq__ pm_Share___eq__ an_Share___eq__ cd_Share___eq__ ct_Share___eq__), sl_Share___eq__⟩)
    (c_Share___eq__ : PySem.W.codeIn K cd_Share___eq__ "Share.__eq__" = true)
    (k_Share___eq__ : PySem.W.keepIn K (.ref a_Share___eq__) = true)
    (m_Share___add__ : PySem.W.findIn K (.ref C_Share) "__add__" = some (some (.ref a_Share___add__)))
    (i_Share___add__ : PySem.W.isFn K (.ref a_Share___add__) = true)
    (l_Share___add__ : K.lookup a_Share___add__ = some ⟨oc_Share___add__, od_Share___add__, .func (PySem.W.fnOf "__add__" "Share.__add__" (defArgs s_Share___add__) (defBody s_Share___add__) (defScope s_Share___add__) .none kV_Share___add__ dc_Share___add__ pm_Share___add__ an_Share___add__ cd_Share___add__ ct_Share___add__), sl_Share___add__⟩)
    (c_Share___add__ : PySem.W.codeIn K cd_Share___add__ "Share.__add__" = true)
    (k_Share___add__ : PySem.W.keepIn K (.ref a_Share___add__) = true)
    (m_Share___radd__ : PySem.W.findIn K (.ref C_Share) "__radd__" = some (some (.ref a_Share___radd__)))
    (i_Share___radd__ : PySem.W.isFn K (.ref a_Share___radd__) = true)
    (l_Share___radd__ : K.lookup a_Share___radd__ = some ⟨oc_Share___radd__, od_Share___radd__, .func (PySem.W.fnOf "__radd__" "Share.__radd__" (defArgs s_Share___radd__) (defBody s_Share___radd__) (defScope s_Share___radd__) .none kV_Share___radd__ dc_Share___radd__ pm_Share___radd__ an_Share___radd__ cd_Share___radd__ ct_Share___radd__), sl_Share___radd__⟩)
    (c_Share___radd__ : PySem.W.codeIn K cd_Share___radd__ "Share.__radd__" = true)
    (k_Share___radd__ : PySem.W.keepIn K (.ref a_Share___radd__) = true)
    (m_Share___mul__ : PySem.W.findIn K (.ref C_Share) "__mul__" = some (some (.ref a_Share___mul__)))
    (i_Share___mul__ : PySem.W.isFn K (.ref a_Share___mul__) = true)
    (l_Share___mul__ : K.lookup a_Share___mul__ = some ⟨oc_Share___mul__, od_Share___mul__, .func (PySem.W.fnOf "__mul__" "Share.__mul__" (defArgs s_Share___mul__) (defBody s_Share___mul__) (defScope s_Share___mul__) .none kV_Share___mul__ dc_Share___mul__ pm_Share___mul__ an_Share___mul__ cd_Share___mul__ ct_Share___mul__), sl_Share___mul__⟩)
    (c_Share___mul__ : PySem.W.codeIn K cd_Share___mul__ "Share.__mul__" = true)
    (k_Share___mul__ : PySem.W.keepIn K (.ref a_Share___mul__) = true)
    (m_Share___rmul__ : PySem.W.findIn K (.ref C_Share) "__rmul__" = some (some (.ref a_Share___rmul__)))
    (i_Share___rmul__ : PySem.W.isFn K (.ref a_Share___rmul__) = true)
    (l_Share___rmul__ : K.lookup a_Share___rmul__ = some ⟨oc_Share___rmul__, od_Share___rmul__, .func (PySem.W.fnOf "__rmul__" "Share.__rmul__" (defArgs s_Share___rmul__) (defBody s_Share___rmul__) (defScope s_Share___rmul__) .none kV_Share___rmul__ dc_Share___rmul__ pm_Share___rmul__ an_Share___rmul__ cd_Share___rmul__ ct_Share___rmul__), sl_Share___rmul__⟩)
    (c_Share___rmul__ : PySem.W.codeIn K cd_Share___rmul__ "Share.__rmul__" = true)
    (k_Share___rmul__ : PySem.W.keepIn K (.ref a_Share___rmul__) = true)
    (g_is_number : PySem.W.nsIn K mainGlobals "is_number" = some (some (.ref a_is_number)))
    (l_is_number : K.lookup a_is_number = some ⟨oc_is_number, od_is_number, .func (PySem.W.fnOf "is_number" "is_number" (defArgs s_is_number) (defBody s_is_number) (defScope s_is_number) .none kV_is_number dc_is_number pm_is_number an_is_number cd_is_number ct_is_number), sl_is_number⟩)
    (c_is_number : PySem.W.codeIn K cd_is_number "is_number" = true)
    (k_is_number : PySem.W.keepIn K (.ref a_is_number) = true)
    (g_as_share : PySem.W.nsIn K mainGlobals "as_share" = some (some (.ref a_as_share)))
    (l_as_share : K.lookup a_as_share = some ⟨oc_as_share, od_as_share, .func (PySem.W.fnOf "as_share" "as_share" (defArgs s_as_share) (defBody s_as_share) (defScope s_as_share) .none kV_as_share dc_as_share pm_as_share an_as_share cd_as_share ct_as_share), sl_as_share⟩)
    (c_as_share : PySem.W.codeIn K cd_as_share "as_share" = true)
    (k_as_share : PySem.W.keepIn K (.ref a_as_share) = true)
    (g_mean : PySem.W.nsIn K mainGlobals "mean" = some (some (.ref a_mean)))
    (l_mean : K.lookup a_mean = some ⟨oc_mean, od_mean, .func (PySem.W.fnOf "mean" "mean" (defArgs s_mean) (defBody s_mean) (defScope s_mean) .none kV_mean dc_mean pm_mean an_mean cd_mean ct_mean), sl_mean⟩)
    (c_mean : PySem.W.codeIn K cd_mean "mean" = true)
    (k_mean : PySem.W.keepIn K (.ref a_mean) = true)
    (g__law_pool : PySem.W.nsIn K mainGlobals "_law_pool" = some (some (.ref a__law_pool)))
    (l__law_pool : K.lookup a__law_pool = some ⟨oc__law_pool, od__law_pool, .func (PySem.W.fnOf "_law_pool" "_law_pool" (defArgs s__law_pool) (defBody s__law_pool) (defScope s__law_pool) .none kV__law_pool dc__law_pool pm__law_pool an__law_pool cd__law_pool ct__law_pool), sl__law_pool⟩)
    (c__law_pool : PySem.W.codeIn K cd__law_pool "_law_pool" = true)
    (k__law_pool : PySem.W.keepIn K (.ref a__law_pool) = true)
    (g__law_draw : PySem.W.nsIn K mainGlobals "_law_draw" = some (some (.ref a__law_draw)))
    (l__law_draw : K.lookup a__law_draw = some ⟨oc__law_draw, od__law_draw, .func (PySem.W.fnOf "_law_draw" "_law_draw" (defArgs s__law_draw) (defBody s__law_draw) (defScope s__law_draw) .none kV__law_draw dc__law_draw pm__law_draw an__law_draw cd__law_draw ct__law_draw), sl__law_draw⟩)
    (c__law_draw : PySem.W.codeIn K cd__law_draw "_law_draw" = true)
    (k__law_draw : PySem.W.keepIn K (.ref a__law_draw) = true)
    (g__law_number : PySem.W.nsIn K mainGlobals "_law_number" = some (some (.ref a__law_number)))
    (l__law_number : K.lookup a__law_number = some ⟨oc__law_number, od__law_number, .func (PySem.W.fnOf "_law_number" "_law_number" (defArgs s__law_number) (defBody s__law_number) (defScope s__law_number) .none kV__law_number dc__law_number pm__law_number an__law_number cd__law_number ct__law_number), sl__law_number⟩)
    (c__law_number : PySem.W.codeIn K cd__law_number "_law_number" = true)
    (k__law_number : PySem.W.keepIn K (.ref a__law_number) = true)
    (g__law_is_integer : PySem.W.nsIn K mainGlobals "_law_is_integer" = some (some (.ref a__law_is_integer)))
    (l__law_is_integer : K.lookup a__law_is_integer = some ⟨oc__law_is_integer, od__law_is_integer, .func (PySem.W.fnOf "_law_is_integer" "_law_is_integer" (defArgs s__law_is_integer) (defBody s__law_is_integer) (defScope s__law_is_integer) .none kV__law_is_integer dc__law_is_integer pm__law_is_integer an__law_is_integer cd__law_is_integer ct__law_is_integer), sl__law_is_integer⟩)
    (c__law_is_integer : PySem.W.codeIn K cd__law_is_integer "_law_is_integer" = true)
    (k__law_is_integer : PySem.W.keepIn K (.ref a__law_is_integer) = true)
    (g__law_common : PySem.W.nsIn K mainGlobals "_law_common" = some (some (.ref a__law_common)))
    (l__law_common : K.lookup a__law_common = some ⟨oc__law_common, od__law_common, .func (PySem.W.fnOf "_law_common" "_law_common" (defArgs s__law_common) (defBody s__law_common) (defScope s__law_common) .none kV__law_common dc__law_common pm__law_common an__law_common cd__law_common ct__law_common), sl__law_common⟩)
    (c__law_common : PySem.W.codeIn K cd__law_common "_law_common" = true)
    (k__law_common : PySem.W.keepIn K (.ref a__law_common) = true)
    (g__law_is_share : PySem.W.nsIn K mainGlobals "_law_is_share" = some (some (.ref a__law_is_share)))
    (l__law_is_share : K.lookup a__law_is_share = some ⟨oc__law_is_share, od__law_is_share, .func (PySem.W.fnOf "_law_is_share" "_law_is_share" (defArgs s__law_is_share) (defBody s__law_is_share) (defScope s__law_is_share) .none kV__law_is_share dc__law_is_share pm__law_is_share an__law_is_share cd__law_is_share ct__law_is_share), sl__law_is_share⟩)
    (c__law_is_share : PySem.W.codeIn K cd__law_is_share "_law_is_share" = true)
    (k__law_is_share : PySem.W.keepIn K (.ref a__law_is_share) = true)
    (g_law : PySem.W.nsIn K mainGlobals "law" = some (some (.ref a_law)))
    (l_law : K.lookup a_law = some ⟨oc_law, od_law, .func (PySem.W.fnOf "law" "law" (defArgs s_law) (defBody s_law) (defScope s_law) .none kV_law dc_law pm_law an_law cd_law ct_law), sl_law⟩)
    (c_law : PySem.W.codeIn K cd_law "law" = true)
    (k_law : PySem.W.keepIn K (.ref a_law) = true)
    (kp_SeatError : PySem.W.keepIn K (.ref C_SeatError) = true)
    (x_SeatError : PySem.W.excIn K C_SeatError [.type "ValueError", .type "Exception", .type "BaseException", .type "object"] "ValueError.__new__" = true)
    (sb_SeatError : PySem.W.subIn K (.ref C_SeatError) (.type "BaseException") = some true)
    (ty_SeatError : PySem.W.typeIn K (.ref C_SeatError) = some (.type "type"))
    (te_SeatError : PySem.W.exmOne K (.ref C_SeatError) (.ref C_SeatError) = some true)
    (e1_SeatError : PySem.W.findIn K (.ref C_SeatError) "__getattribute__" = some (some (.builtin "BaseException.__getattribute__")))
    (e2_SeatError : PySem.W.findIn K (.ref C_SeatError) "__getattr__" = some none)
    (e3_SeatError : PySem.W.hasDictIn K C_SeatError = true)
    (e4_SeatError : PySem.W.findIn K (.ref C_SeatError) "__class__" = some (some (.builtin "object.__class__")))
    (e5_SeatError : PySem.W.mroIn K C_SeatError (.type "object") = some true)
    (kp_BadShare : PySem.W.keepIn K (.ref C_BadShare) = true)
    (x_BadShare : PySem.W.excIn K C_BadShare [.type "ValueError", .type "Exception", .type "BaseException", .type "object"] "ValueError.__new__" = true)
    (sb_BadShare : PySem.W.subIn K (.ref C_BadShare) (.type "BaseException") = some true)
    (ty_BadShare : PySem.W.typeIn K (.ref C_BadShare) = some (.type "type"))
    (te_BadShare : PySem.W.exmOne K (.ref C_BadShare) (.ref C_BadShare) = some true)
    (e1_BadShare : PySem.W.findIn K (.ref C_BadShare) "__getattribute__" = some (some (.builtin "BaseException.__getattribute__")))
    (e2_BadShare : PySem.W.findIn K (.ref C_BadShare) "__getattr__" = some none)
    (e3_BadShare : PySem.W.hasDictIn K C_BadShare = true)
    (e4_BadShare : PySem.W.findIn K (.ref C_BadShare) "__class__" = some (some (.builtin "object.__class__")))
    (e5_BadShare : PySem.W.mroIn K C_BadShare (.type "object") = some true)
    (kp_Share : PySem.W.keepIn K (.ref C_Share) = true)
    (o1_Share : PySem.W.plainGet K C_Share Str.empty = true)
    (o2_Share : PySem.W.hasDictIn K C_Share = true)
    (o3_Share : PySem.W.plainOver K C_Share = true)
    (o4_Share : PySem.W.findIn K (.ref C_Share) "__setattr__" = some (some (.builtin "object.__setattr__")))
    (o5_Share : PySem.W.findIn K (.ref C_Share) "__class__" = some (some (.builtin "object.__class__")))
    (o6_Share : PySem.W.mroIn K C_Share (.type "object") = some true)
    (o7_Share : PySem.W.makesIn K C_Share = true)
    (na_Share_top : PySem.W.findIn K (.ref C_Share) "top" = some none)
    (na_Share_bottom : PySem.W.findIn K (.ref C_Share) "bottom" = some none)
    (hn : PySem.W.specialIn K (.builtin "object.__class__") "__get__" = some (some (.builtin "getset_descriptor.__get__")))
    (htk : PySem.W.takesIn K (.builtin "object.__class__") = some true)
    (kit_Share_int : PySem.W.kitOne K (.ref C_Share) (.type "int") = some false)
    (kit_Share_bool : PySem.W.kitOne K (.ref C_Share) (.type "bool") = some false)
    (kit_int_Share : PySem.W.kitOne K (.type "int") (.ref C_Share) = some false)
    (c_gcd : PySem.W.nsIn K mainGlobals "gcd" = some (some (.builtin "math.gcd")))
    (sf_Share : PySem.W.selfFirst K C_Share = true)
    (su_Share : PySem.W.subIn K (.type "int") (.ref C_Share) = some false)
    (us_Share : PySem.W.subIn K (.ref C_Share) (.type "int") = some false)
    (fo1_add : PySem.W.findIn K (.type "int") "__add__" = some fo_add)
    (ro1_add : PySem.W.findIn K (.type "int") "__radd__" = some ro_add)
    (fo1_mul : PySem.W.findIn K (.type "int") "__mul__" = some fo_mul)
    (ro1_mul : PySem.W.findIn K (.type "int") "__rmul__" = some ro_mul)
    (nf_Share : PySem.W.notFirst K C_Share (.ref C_Share) = true)
    : ∃ fd : FuncData, (∀ (s : Shared) (v : Value), BindsTo s fd ⟨[v], []⟩ [("_law_script", v)]) ∧ ∀ base : Heap, K.In base → base.Ns mainGlobals mg → FnOk l.prog w K mg base CX0 7 fa fd ["_law_script"] (spLaw K) := by
  have e := hfa.symm.trans (PySem.W.mg_of X G g_law)
  cases e
  have F_is_whole := fun_mk (st := s_is_whole) l_is_whole c_is_whole k_is_whole
  have b_is_whole := F_is_whole.binds (ps := ["value"]) fun _ _ _ _ _ _ us hl => match us, hl with | [_], _ => rfl
  have F_Share___init__ : FunD K "__init__" "Share.__init__" (defArgs s_Share___init__) (defBody s_Share___init__) (defScope s_Share___init__) [.int 1] [] a_Share___init__ (PySem.W.fnOf "__init__" "Share.__init__" (defArgs s_Share___init__) (defBody s_Share___init__) (defScope s_Share___init__) (.ref td_Share___init__) kV_Share___init__ dc_Share___init__ pm_Share___init__ an_Share___init__ cd_Share___init__ ct_Share___init__) := ⟨⟨_, _, _, _, _, _, _, _, _, _, rfl, l_Share___init__, c_Share___init__, .inr ⟨List.cons_ne_nil _ _, td_Share___init__, _, [.int 1 tk_Share___init___0], tn_Share___init__, rfl, t_Share___init__, rfl, (.cons ⟨_, rfl⟩ .nil)⟩, .inl rfl⟩, k_Share___init__⟩
  have bx_Share___init___0 := F_Share___init__.binds1 (ps := ["self", "top", "bottom"]) 3 1 (List.cons_ne_nil _ _) rfl fun T kV doc pm an cdv ct us its h1 h2 => match us, its, h1, h2 with | [_, _, _], [_], _, _ => ⟨_, rfl, rfl⟩
  have bx_Share___init___1 := F_Share___init__.binds1 (ps := ["self", "top", "bottom"]) 2 0 (List.cons_ne_nil _ _) rfl fun T kV doc pm an cdv ct us its h1 h2 => match us, its, h1, h2 with | [_, _], [_], _, _ => ⟨_, rfl, rfl⟩
  have F_Share___eq__ := fun_mk (st := s_Share___eq__) l_Share___eq__ c_Share___eq__ k_Share___eq__
  have b_Share___eq__ := F_Share___eq__.binds (ps := ["self", "other"]) fun _ _ _ _ _ _ us hl => match us, hl with | [_, _], _ => rfl
  have F_Share___add__ := fun_mk (st := s_Share___add__) l_Share___add__ c_Share___add__ k_Share___add__
  have b_Share___add__ := F_Share___add__.binds (ps := ["self", "other"]) fun _ _ _ _ _ _ us hl => match us, hl with | [_, _], _ => rfl
  have F_Share___radd__ := fun_mk (st := s_Share___radd__) l_Share___radd__ c_Share___radd__ k_Share___radd__
  have b_Share___radd__ := F_Share___radd__.binds (ps := ["self", "other"]) fun _ _ _ _ _ _ us hl => match us, hl with | [_, _], _ => rfl
  have F_Share___mul__ := fun_mk (st := s_Share___mul__) l_Share___mul__ c_Share___mul__ k_Share___mul__
  have b_Share___mul__ := F_Share___mul__.binds (ps := ["self", "other"]) fun _ _ _ _ _ _ us hl => match us, hl with | [_, _], _ => rfl
  have F_Share___rmul__ := fun_mk (st := s_Share___rmul__) l_Share___rmul__ c_Share___rmul__ k_Share___rmul__
  have b_Share___rmul__ := F_Share___rmul__.binds (ps := ["self", "other"]) fun _ _ _ _ _ _ us hl => match us, hl with | [_, _], _ => rfl
  have F_is_number := fun_mk (st := s_is_number) l_is_number c_is_number k_is_number
  have b_is_number := F_is_number.binds (ps := ["value"]) fun _ _ _ _ _ _ us hl => match us, hl with | [_], _ => rfl
  have F_as_share := fun_mk (st := s_as_share) l_as_share c_as_share k_as_share
  have b_as_share := F_as_share.binds (ps := ["value"]) fun _ _ _ _ _ _ us hl => match us, hl with | [_], _ => rfl
  have F_mean := fun_mk (st := s_mean) l_mean c_mean k_mean
  have b_mean := F_mean.binds (ps := ["shares"]) fun _ _ _ _ _ _ us hl => match us, hl with | [_], _ => rfl
  have F__law_pool := fun_mk (st := s__law_pool) l__law_pool c__law_pool k__law_pool
  have b__law_pool := F__law_pool.binds (ps := ["_law_script"]) fun _ _ _ _ _ _ us hl => match us, hl with | [_], _ => rfl
  have F__law_draw := fun_mk (st := s__law_draw) l__law_draw c__law_draw k__law_draw
  have b__law_draw := F__law_draw.binds (ps := ["_law_pool_here", "_law_many"]) fun _ _ _ _ _ _ us hl => match us, hl with | [_, _], _ => rfl
  have F__law_number := fun_mk (st := s__law_number) l__law_number c__law_number k__law_number
  have b__law_number := F__law_number.binds (ps := ["_law_pool_here", "_law_parts"]) fun _ _ _ _ _ _ us hl => match us, hl with | [_, _], _ => rfl
  have F__law_is_integer := fun_mk (st := s__law_is_integer) l__law_is_integer c__law_is_integer k__law_is_integer
  have b__law_is_integer := F__law_is_integer.binds (ps := ["_law_value"]) fun _ _ _ _ _ _ us hl => match us, hl with | [_], _ => rfl
  have F__law_common := fun_mk (st := s__law_common) l__law_common c__law_common k__law_common
  have b__law_common := F__law_common.binds (ps := ["_law_one", "_law_other"]) fun _ _ _ _ _ _ us hl => match us, hl with | [_, _], _ => rfl
  have F__law_is_share := fun_mk (st := s__law_is_share) l__law_is_share c__law_is_share k__law_is_share
  have b__law_is_share := F__law_is_share.binds (ps := ["_law_value", "_law_top", "_law_bottom"]) fun _ _ _ _ _ _ us hl => match us, hl with | [_, _, _], _ => rfl
  have F_law := fun_mk (st := s_law) l_law c_law k_law
  have b_law := F_law.binds (ps := ["_law_script"]) fun _ _ _ _ _ _ us hl => match us, hl with | [_], _ => rfl
  let N : Nms := { a_is_whole := a_is_whole, d_is_whole := PySem.W.fnOf "is_whole" "is_whole" (defArgs s_is_whole) (defBody s_is_whole) (defScope s_is_whole) .none kV_is_whole dc_is_whole pm_is_whole an_is_whole cd_is_whole ct_is_whole, a_Share___init__ := a_Share___init__, d_Share___init__ := PySem.W.fnOf "__init__" "Share.__init__" (defArgs s_Share___init__) (defBody s_Share___init__) (defScope s_Share___init__) (.ref td_Share___init__) kV_Share___init__ dc_Share___init__ pm_Share___init__ an_Share___init__ cd_Share___init__ ct_Share___init__, a_Share___eq__ := a_Share___eq__, d_Share___eq__ := PySem.W.fnOf "__eq__" "Share.__eq__" (defArgs s_Share___eq__) (defBody s_Share___eq__) (defScope s_Share___eq__) .none kV_Share___eq__ dc_Share___eq__ pm_Share___eq__ an_Share___eq__ cd_Share___eq__ ct_Share___eq__, a_Share___add__ := a_Share___add__, d_Share___add__ := PySem.W.fnOf "__add__" "Share.__add__" (defArgs s_Share___add__) (defBody s_Share___add__) (defScope s_Share___add__) .none kV_Share___add__ dc_Share___add__ pm_Share___add__ an_Share___add__ cd_Share___add__ ct_Share___add__, a_Share___radd__ := a_Share___radd__, d_Share___radd__ := PySem.W.fnOf "__radd__" "Share.__radd__" (defArgs s_Share___radd__) (defBody s_Share___radd__) (defScope s_Share___radd__) .none kV_Share___radd__ dc_Share___radd__ pm_Share___radd__ an_Share___radd__ cd_Share___radd__ ct_Share___radd__, a_Share___mul__ := a_Share___mul__, d_Share___mul__ := PySem.W.fnOf "__mul__" "Share.__mul__" (defArgs s_Share___mul__) (defBody s_Share___mul__) (defScope s_Share___mul__) .none kV_Share___mul__ dc_Share___mul__ pm_Share___mul__ an_Share___mul__ cd_Share___mul__ ct_Share___mul__, a_Share___rmul__ := a_Share___rmul__, d_Share___rmul__ := PySem.W.fnOf "__rmul__" "Share.__rmul__" (defArgs s_Share___rmul__) (defBody s_Share___rmul__) (defScope s_Share___rmul__) .none kV_Share___rmul__ dc_Share___rmul__ pm_Share___rmul__ an_Share___rmul__ cd_Share___rmul__ ct_Share___rmul__, a_is_number := a_is_number, d_is_number := PySem.W.fnOf "is_number" "is_number" (defArgs s_is_number) (defBody s_is_number) (defScope s_is_number) .none kV_is_number dc_is_number pm_is_number an_is_number cd_is_number ct_is_number, a_as_share := a_as_share, d_as_share := PySem.W.fnOf "as_share" "as_share" (defArgs s_as_share) (defBody s_as_share) (defScope s_as_share) .none kV_as_share dc_as_share pm_as_share an_as_share cd_as_share ct_as_share, a_mean := a_mean, d_mean := PySem.W.fnOf "mean" "mean" (defArgs s_mean) (defBody s_mean) (defScope s_mean) .none kV_mean dc_mean pm_mean an_mean cd_mean ct_mean, a__law_pool := a__law_pool, d__law_pool := PySem.W.fnOf "_law_pool" "_law_pool" (defArgs s__law_pool) (defBody s__law_pool) (defScope s__law_pool) .none kV__law_pool dc__law_pool pm__law_pool an__law_pool cd__law_pool ct__law_pool, a__law_draw := a__law_draw, d__law_draw := PySem.W.fnOf "_law_draw" "_law_draw" (defArgs s__law_draw) (defBody s__law_draw) (defScope s__law_draw) .none kV__law_draw dc__law_draw pm__law_draw an__law_draw cd__law_draw ct__law_draw, a__law_number := a__law_number, d__law_number := PySem.W.fnOf "_law_number" "_law_number" (defArgs s__law_number) (defBody s__law_number) (defScope s__law_number) .none kV__law_number dc__law_number pm__law_number an__law_number cd__law_number ct__law_number, a__law_is_integer := a__law_is_integer, d__law_is_integer := PySem.W.fnOf "_law_is_integer" "_law_is_integer" (defArgs s__law_is_integer) (defBody s__law_is_integer) (defScope s__law_is_integer) .none kV__law_is_integer dc__law_is_integer pm__law_is_integer an__law_is_integer cd__law_is_integer ct__law_is_integer, a__law_common := a__law_common, d__law_common := PySem.W.fnOf "_law_common" "_law_common" (defArgs s__law_common) (defBody s__law_common) (defScope s__law_common) .none kV__law_common dc__law_common pm__law_common an__law_common cd__law_common ct__law_common, a__law_is_share := a__law_is_share, d__law_is_share := PySem.W.fnOf "_law_is_share" "_law_is_share" (defArgs s__law_is_share) (defBody s__law_is_share) (defScope s__law_is_share) .none kV__law_is_share dc__law_is_share pm__law_is_share an__law_is_share cd__law_is_share ct__law_is_share, a_law := fa, d_law := PySem.W.fnOf "law" "law" (defArgs s_law) (defBody s_law) (defScope s_law) .none kV_law dc_law pm_law an_law cd_law ct_law, C_SeatError := C_SeatError, C_BadShare := C_BadShare, C_Share := C_Share }
  have T : Txt K mg N := { z_isinstance := PySem.W.mg_none_of X G z_isinstance, z_bool := PySem.W.mg_none_of X G z_bool, z_int := PySem.W.mg_none_of X G z_int, z_len := PySem.W.mg_none_of X G z_len, z_list := PySem.W.mg_none_of X G z_list, z_range := PySem.W.mg_none_of X G z_range, F_is_whole := F_is_whole, g_is_whole := PySem.W.mg_of X G g_is_whole, k_is_whole := k_is_whole, b_is_whole := b_is_whole, F_Share___init__ := F_Share___init__, F_Share___eq__ := F_Share___eq__, b_Share___eq__ := b_Share___eq__, F_Share___add__ := F_Share___add__, b_Share___add__ := b_Share___add__, F_Share___radd__ := F_Share___radd__, b_Share___radd__ := b_Share___radd__, F_Share___mul__ := F_Share___mul__, b_Share___mul__ := b_Share___mul__, F_Share___rmul__ := F_Share___rmul__, b_Share___rmul__ := b_Share___rmul__, F_is_number := F_is_number, g_is_number := PySem.W.mg_of X G g_is_number, k_is_number := k_is_number, b_is_number := b_is_number, F_as_share := F_as_share, g_as_share := PySem.W.mg_of X G g_as_share, k_as_share := k_as_share, b_as_share := b_as_share, F_mean := F_mean, g_mean := PySem.W.mg_of X G g_mean, k_mean := k_mean, b_mean := b_mean, F__law_pool := F__law_pool, g__law_pool := PySem.W.mg_of X G g__law_pool, k__law_pool := k__law_pool, b__law_pool := b__law_pool, F__law_draw := F__law_draw, g__law_draw := PySem.W.mg_of X G g__law_draw, k__law_draw := k__law_draw, b__law_draw := b__law_draw, F__law_number := F__law_number, g__law_number := PySem.W.mg_of X G g__law_number, k__law_number := k__law_number, b__law_number := b__law_number, F__law_is_integer := F__law_is_integer, g__law_is_integer := PySem.W.mg_of X G g__law_is_integer, k__law_is_integer := k__law_is_integer, b__law_is_integer := b__law_is_integer, F__law_common := F__law_common, g__law_common := PySem.W.mg_of X G g__law_common, k__law_common := k__law_common, b__law_common := b__law_common, F__law_is_share := F__law_is_share, g__law_is_share := PySem.W.mg_of X G g__law_is_share, k__law_is_share := k__law_is_share, b__law_is_share := b__law_is_share, F_law := F_law, g_law := PySem.W.mg_of X G g_law, k_law := k_law, b_law := b_law, g_SeatError := PySem.W.mg_of X G g_SeatError, x_SeatError := x_SeatError, kp_SeatError := kp_SeatError, sb_SeatError := sb_SeatError, ty_SeatError := ty_SeatError, te_SeatError := te_SeatError, ec_SeatError := ⟨e1_SeatError, e2_SeatError, sb_SeatError, e3_SeatError, e4_SeatError, hn, htk, e5_SeatError⟩, g_BadShare := PySem.W.mg_of X G g_BadShare, x_BadShare := x_BadShare, kp_BadShare := kp_BadShare, sb_BadShare := sb_BadShare, ty_BadShare := ty_BadShare, te_BadShare := te_BadShare, ec_BadShare := ⟨e1_BadShare, e2_BadShare, sb_BadShare, e3_BadShare, e4_BadShare, hn, htk, e5_BadShare⟩, g_Share := PySem.W.mg_of X G g_Share, ow_Share := ⟨⟨o1_Share, o2_Share, o3_Share, o4_Share⟩, o5_Share, hn, htk, o6_Share⟩, mk_Share := ⟨o7_Share, m_Share___init__, i_Share___init__, kp_Share⟩, na_Share_top := na_Share_top, na_Share_bottom := na_Share_bottom, kit_Share_int := kit_Share_int, kit_Share_bool := kit_Share_bool, kit_int_Share := kit_int_Share, b_Share___init__ := (by obtain ⟨ds, v, b⟩ := bx_Share___init___0; cases v; exact b), bd_Share___init___1 := bx_Share___init___1, c_gcd := PySem.W.mg_of X G c_gcd, bin_add := ⟨sf_Share, by rw [(show PySem.dunder Operator.Add.info.2 = ("__add__" : Str) by decide +kernel)]; exact m_Share___add__, i_Share___add__, by rw [(show dunderR Operator.Add.info.2 = ("__radd__" : Str) by decide +kernel)]; exact m_Share___radd__, i_Share___radd__, ⟨fo_add, by rw [(show PySem.dunder Operator.Add.info.2 = ("__add__" : Str) by decide +kernel)]; exact fo1_add⟩, ⟨ro_add, by rw [(show dunderR Operator.Add.info.2 = ("__radd__" : Str) by decide +kernel)]; exact ro1_add⟩, su_Share, us_Share⟩, bin_mul := ⟨sf_Share, by rw [(show PySem.dunder Operator.Mult.info.2 = ("__mul__" : Str) by decide +kernel)]; exact m_Share___mul__, i_Share___mul__, by rw [(show dunderR Operator.Mult.info.2 = ("__rmul__" : Str) by decide +kernel)]; exact m_Share___rmul__, i_Share___rmul__, ⟨fo_mul, by rw [(show PySem.dunder Operator.Mult.info.2 = ("__mul__" : Str) by decide +kernel)]; exact fo1_mul⟩, ⟨ro_mul, by rw [(show dunderR Operator.Mult.info.2 = ("__rmul__" : Str) by decide +kernel)]; exact ro1_mul⟩, su_Share, us_Share⟩, m_Share___eq__ := m_Share___eq__, i_Share___eq__ := i_Share___eq__, nf_Share := nf_Share }
  refine ⟨N.d_law, fun s v => .of_eq rfl, fun base _ _ => ?_⟩
  have G_is_whole := ok_is_whole (P := l.prog) (w := w) (base := base) T
  have G_Share___init__ := ok_Share___init__ (P := l.prog) (w := w) (base := base) T G_is_whole
  have G_Share___eq__ := ok_Share___eq__ (P := l.prog) (w := w) (base := base) T G_is_whole
  have G_as_share := ok_as_share (P := l.prog) (w := w) (base := base) T G_Share___init__
  have G_is_number := ok_is_number (P := l.prog) (w := w) (base := base) T G_is_whole
  have G_Share___add__ := ok_Share___add__ (P := l.prog) (w := w) (base := base) T G_Share___init__ G_as_share G_is_number
  have G_Share___radd__ := ok_Share___radd__ (P := l.prog) (w := w) (base := base) T G_as_share G_is_number G_Share___add__
  have G_Share___mul__ := ok_Share___mul__ (P := l.prog) (w := w) (base := base) T G_Share___init__ G_as_share G_is_number
  have G_Share___rmul__ := ok_Share___rmul__ (P := l.prog) (w := w) (base := base) T G_as_share G_is_number G_Share___mul__
  have G_mean := ok_mean (P := l.prog) (w := w) (base := base) T G_Share___init__ G_Share___add__ G_Share___mul__
  have G__law_pool := ok__law_pool (P := l.prog) (w := w) (base := base) T
  have G__law_draw := ok__law_draw (P := l.prog) (w := w) (base := base) T
  have G__law_number := ok__law_number (P := l.prog) (w := w) (base := base) T G__law_draw
  have G__law_is_integer := ok__law_is_integer (P := l.prog) (w := w) (base := base) T
  have G__law_common := ok__law_common (P := l.prog) (w := w) (base := base) T
  have G__law_is_share := ok__law_is_share (P := l.prog) (w := w) (base := base) T G__law_common G__law_is_integer
  have G_law := ok_law (P := l.prog) (w := w) (base := base) T G__law_is_share G_mean G__law_draw G_Share___init__ G__law_number G__law_pool G_Share___eq__
  exact G_law
theorem walk {l : PySem.W.OpenLaw} {q : Program} {loose : List Str} {XP : (Str → Option Value) → Heap → Prop} {YP : World → Heap → Prop} {d : DefRec} {K : Params → PySem.W.Frag} (hn : l.most = some 63) (hdf : d.params.defaults = [])
    (hY : ∀ (w : World) (h : Heap), YP w h → (K w.params).In h)
    (F : ∀ (w : World) (mg : Str → Option Value) (fa : Addr) (h : Heap), (K w.params).In h → h.Ns mainGlobals mg → mg d.name = some (.ref fa) →
      ∃ fd : FuncData, (∀ (s : Shared) (u : Value), BindsTo s fd ⟨[u], []⟩ [("_law_script", u)]) ∧ ∀ base : Heap, (K w.params).In base → base.Ns mainGlobals mg → FnOk l.prog w (K w.params) mg base CX0 7 fa fd ["_law_script"] (spLaw (K w.params))) :
    PySem.W.WalkO q loose XP YP l.row.toRowW d [] (fun f vs => PySem.call f vs) := by
  refine L2.walk_of (n := 63) (k := 7) (x := "_law_script") (CX := fun _ => CX0) (sp := fun w => spLaw (K w.params)) hn (by decide) hdf ⟨rfl, by decide, by decide⟩ hY F (fun _ _ a ns hl _ hS => ?_) fun _ _ _ _ _ z => z
  unfold spLaw
  exact ⟨a, ns, rfl, hS, hl, fun _ => rfl⟩
end My
open PySem PySem.W PyProof.Rows
set_option maxRecDepth 100000 in
set_option maxHeartbeats 0 in
theorem PySem.Challenge.cw_seatatonce_k04_share_mean_holds : PySem.Challenge.rw_seatatonce_k04_share_mean.Holds := by
  w_on; o_law; k_head; (case hw => w_witness2)
  k_fill
  refine My.walk (l := PySem.Challenge.rw_seatatonce_k04_share_mean) rfl rfl (fun w h Y => PySem.W.kIn_of Y) ?F
  case F =>
    intro w mg fa h KX G hmg
    refine' My.all_mk KX G hmg ?g_SeatError ?g_BadShare ?g_Share ?z_isinstance ?z_bool ?z_int ?z_len ?z_list ?z_range ?g_is_whole ?l_is_whole ?c_is_whole ?k_is_whole ?m_Share___init__ ?i_Share___init__ ?l_Share___init__ ?c_Share___init__ ?k_Share___init__ ?t_Share___init__ ?m_Share___eq__ ?i_Share___eq__ ?l_Share___eq__ ?c_Share___eq__ ?k_Share___eq__ ?m_Share___add__ ?i_Share___add__ ?l_Share___add__ ?c_Share___add__ ?k_Share___add__ ?m_Share___radd__ ?i_Share___radd__ ?l_Share___radd__ ?c_Share___radd__ ?k_Share___radd__ ?m_Share___mul__ ?i_Share___mul__ ?l_Share___mul__ ?c_Share___mul__ ?k_Share___mul__ ?m_Share___rmul__ ?i_Share___rmul__ ?l_Share___rmul__ ?c_Share___rmul__ ?k_Share___rmul__ ?g_is_number ?l_is_number ?c_is_number ?k_is_number ?g_as_share ?l_as_share ?c_as_share ?k_as_share ?g_mean ?l_mean ?c_mean ?k_mean ?g__law_pool ?l__law_pool ?c__law_pool ?k__law_pool ?g__law_draw ?l__law_draw ?c__law_draw ?k__law_draw ?g__law_number ?l__law_number ?c__law_number ?k__law_number ?g__law_is_integer ?l__law_is_integer ?c__law_is_integer ?k__law_is_integer ?g__law_common ?l__law_common ?c__law_common ?k__law_common ?g__law_is_share ?l__law_is_share ?c__law_is_share ?k__law_is_share ?g_law ?l_law ?c_law ?k_law ?kp_SeatError ?x_SeatError ?sb_SeatError ?ty_SeatError ?te_SeatError ?e1_SeatError ?e2_SeatError ?e3_SeatError ?e4_SeatError ?e5_SeatError ?kp_BadShare ?x_BadShare ?sb_BadShare ?ty_BadShare ?te_BadShare ?e1_BadShare ?e2_BadShare ?e3_BadShare ?e4_BadShare ?e5_BadShare ?kp_Share ?o1_Share ?o2_Share ?o3_Share ?o4_Share ?o5_Share ?o6_Share ?o7_Share ?na_Share_top ?na_Share_bottom ?hn ?htk ?kit_Share_int ?kit_Share_bool ?kit_int_Share ?c_gcd ?sf_Share ?su_Share ?us_Share ?fo1_add ?ro1_add ?fo1_mul ?ro1_mul ?nf_Share
    (case g_SeatError => first | k_is | k_exc | rfl)
    (case g_BadShare => first | k_is | k_exc | rfl)
    (case g_Share => first | k_is | k_exc | rfl)
    (case z_isinstance => first | k_is | k_exc | rfl)
    (case z_bool => first | k_is | k_exc | rfl)
    (case z_int => first | k_is | k_exc | rfl)
    (case z_len => first | k_is | k_exc | rfl)
    (case z_list => first | k_is | k_exc | rfl)
    (case z_range => first | k_is | k_exc | rfl)
    (case g_is_whole => first | k_is | k_exc | rfl)
    (case l_is_whole => first | k_is | k_exc | rfl)
    (case c_is_whole => first | k_is | k_exc | rfl)
    (case k_is_whole => first | k_is | k_exc | rfl)
    (case m_Share___init__ => first | k_is | k_exc | rfl)
    (case i_Share___init__ => first | k_is | k_exc | rfl)
    (case l_Share___init__ => first | k_is | k_exc | rfl)
    (case c_Share___init__ => first | k_is | k_exc | rfl)
    (case k_Share___init__ => first | k_is | k_exc | rfl)
    (case t_Share___init__ => first | k_is | k_exc | rfl)
    (case m_Share___eq__ => first | k_is | k_exc | rfl)
    (case i_Share___eq__ => first | k_is | k_exc | rfl)
    (case l_Share___eq__ => first | k_is | k_exc | rfl)
    (case c_Share___eq__ => first | k_is | k_exc | rfl)
    (case k_Share___eq__ => first | k_is | k_exc | rfl)
    (case m_Share___add__ => first | k_is | k_exc | rfl)
    (case i_Share___add__ => first | k_is | k_exc | rfl)
    (case l_Share___add__ => first | k_is | k_exc | rfl)
    (case c_Share___add__ => first | k_is | k_exc | rfl)
    (case k_Share___add__ => first | k_is | k_exc | rfl)
    (case m_Share___radd__ => first | k_is | k_exc | rfl)
    (case i_Share___radd__ => first | k_is | k_exc | rfl)
    (case l_Share___radd__ => first | k_is | k_exc | rfl)
    (case c_Share___radd__ => first | k_is | k_exc | rfl)
    (case k_Share___radd__ => first | k_is | k_exc | rfl)
    (case m_Share___mul__ => first | k_is | k_exc | rfl)
    (case i_Share___mul__ => first | k_is | k_exc | rfl)
    (case l_Share___mul__ => first | k_is | k_exc | rfl)
    (case c_Share___mul__ => first | k_is | k_exc | rfl)
    (case k_Share___mul__ => first | k_is | k_exc | rfl)
    (case m_Share___rmul__ => first | k_is | k_exc | rfl)
    (case i_Share___rmul__ => first | k_is | k_exc | rfl)
    (case l_Share___rmul__ => first | k_is | k_exc | rfl)
    (case c_Share___rmul__ => first | k_is | k_exc | rfl)
    (case k_Share___rmul__ => first | k_is | k_exc | rfl)
    (case g_is_number => first | k_is | k_exc | rfl)
    (case l_is_number => first | k_is | k_exc | rfl)
    (case c_is_number => first | k_is | k_exc | rfl)
    (case k_is_number => first | k_is | k_exc | rfl)
    (case g_as_share => first | k_is | k_exc | rfl)
    (case l_as_share => first | k_is | k_exc | rfl)
    (case c_as_share => first | k_is | k_exc | rfl)
    (case k_as_share => first | k_is | k_exc | rfl)
    (case g_mean => first | k_is | k_exc | rfl)
    (case l_mean => first | k_is | k_exc | rfl)
    (case c_mean => first | k_is | k_exc | rfl)
    (case k_mean => first | k_is | k_exc | rfl)
    (case g__law_pool => first | k_is | k_exc | rfl)
    (case l__law_pool => first | k_is | k_exc | rfl)
    (case c__law_pool => first | k_is | k_exc | rfl)
    (case k__law_pool => first | k_is | k_exc | rfl)
    (case g__law_draw => first | k_is | k_exc | rfl)
    (case l__law_draw => first | k_is | k_exc | rfl)
    (case c__law_draw => first | k_is | k_exc | rfl)
    (case k__law_draw => first | k_is | k_exc | rfl)
    (case g__law_number => first | k_is | k_exc | rfl)
    (case l__law_number => first | k_is | k_exc | rfl)
    (case c__law_number => first | k_is | k_exc | rfl)
    (case k__law_number => first | k_is | k_exc | rfl)
    (case g__law_is_integer => first | k_is | k_exc | rfl)
    (case l__law_is_integer => first | k_is | k_exc | rfl)
    (case c__law_is_integer => first | k_is | k_exc | rfl)
    (case k__law_is_integer => first | k_is | k_exc | rfl)
    (case g__law_common => first | k_is | k_exc | rfl)
    (case l__law_common => first | k_is | k_exc | rfl)
    (case c__law_common => first | k_is | k_exc | rfl)
    (case k__law_common => first | k_is | k_exc | rfl)
    (case g__law_is_share => first | k_is | k_exc | rfl)
    (case l__law_is_share => first | k_is | k_exc | rfl)
    (case c__law_is_share => first | k_is | k_exc | rfl)
    (case k__law_is_share => first | k_is | k_exc | rfl)
    (case g_law => first | k_is | k_exc | rfl)
    (case l_law => first | k_is | k_exc | rfl)
    (case c_law => first | k_is | k_exc | rfl)
    (case k_law => first | k_is | k_exc | rfl)
    (case kp_SeatError => first | k_is | k_exc | rfl)
    (case x_SeatError => first | k_is | k_exc | rfl)
    (case sb_SeatError => first | k_is | k_exc | rfl)
    (case ty_SeatError => first | k_is | k_exc | rfl)
    (case te_SeatError => first | k_is | k_exc | rfl)
    (case e1_SeatError => first | k_is | k_exc | rfl)
    (case e2_SeatError => first | k_is | k_exc | rfl)
    (case e3_SeatError => first | k_is | k_exc | rfl)
    (case e4_SeatError => first | k_is | k_exc | rfl)
    (case e5_SeatError => first | k_is | k_exc | rfl)
    (case kp_BadShare => first | k_is | k_exc | rfl)
    (case x_BadShare => first | k_is | k_exc | rfl)
    (case sb_BadShare => first | k_is | k_exc | rfl)
    (case ty_BadShare => first | k_is | k_exc | rfl)
    (case te_BadShare => first | k_is | k_exc | rfl)
    (case e1_BadShare => first | k_is | k_exc | rfl)
    (case e2_BadShare => first | k_is | k_exc | rfl)
    (case e3_BadShare => first | k_is | k_exc | rfl)
    (case e4_BadShare => first | k_is | k_exc | rfl)
    (case e5_BadShare => first | k_is | k_exc | rfl)
    (case kp_Share => first | k_is | k_exc | rfl)
    (case o1_Share => first | k_is | k_exc | rfl)
    (case o2_Share => first | k_is | k_exc | rfl)
    (case o3_Share => first | k_is | k_exc | rfl)
    (case o4_Share => first | k_is | k_exc | rfl)
    (case o5_Share => first | k_is | k_exc | rfl)
    (case o6_Share => first | k_is | k_exc | rfl)
    (case o7_Share => first | k_is | k_exc | rfl)
    (case na_Share_top => first | k_is | k_exc | rfl)
    (case na_Share_bottom => first | k_is | k_exc | rfl)
    (case hn => first | k_is | k_exc | rfl)
    (case htk => first | k_is | k_exc | rfl)
    (case kit_Share_int => first | k_is | k_exc | rfl)
    (case kit_Share_bool => first | k_is | k_exc | rfl)
    (case kit_int_Share => first | k_is | k_exc | rfl)
    (case c_gcd => first | k_is | k_exc | rfl)
    (case sf_Share => first | k_is | k_exc | rfl)
    (case su_Share => first | k_is | k_exc | rfl)
    (case us_Share => first | k_is | k_exc | rfl)
    (case fo1_add => first | k_is | k_exc | rfl)
    (case ro1_add => first | k_is | k_exc | rfl)
    (case fo1_mul => first | k_is | k_exc | rfl)
    (case ro1_mul => first | k_is | k_exc | rfl)
    (case nf_Share => first | k_is | k_exc | rfl)
#print axioms PySem.Challenge.cw_seatatonce_k04_share_mean_holds
