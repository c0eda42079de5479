import PyProof.Rows.All
import Wide.All
import OpenK.AllK
import Wide.FinOn
import HandS.ForMost
import HandS.EndBits
import HandS.Wide
import HandS.IsInst
import HandS.Style
import HandS.Walk
import HandS.ClsMeth
import HandS.Conv
import HandS.ForExc
import HandS.ExcInit
import HandS.CallSlots
import HandS.Defaults
import HandS.ExcField
import HandS.Property
import HandS.WordsExc
import HandS.TryMany
import KE.KExcSuper
import HandS.HotCalls
import HandS.Dict
import HandS.Set
import HandS.SetBool
import HandS.SetFor
import HandS.Strs
import HandS.More
import PyProof.Rows.SortShellAny
import PyProof.Rows.SetFrom
import PyProof.Rows.SetObj
import HandS.TryOnly
import HandS.Star
import HandS.TupAny
import KE.KOpsOwn
import HandS.Zip
import HandS.SetBool
import KE.KNestM
import KE.KCallOwn
import HandS.FStr
import HandS.Nested
import HandS.NestedHot
import HandS.Lambda
import HandS.EndTab
import HandS.Codes
import PySem.Challenge.RW_innercommits_k18_rules_refused

set_option Elab.async false
set_option linter.all false
set_option maxRecDepth 100000
set_option maxHeartbeats 4000000
namespace Ic
open PySem L2
def top (i : Nat) : Stmt := PySem.Challenge.pw_innercommits_k18_rules_refused.main.body.getD i (.Pass ⟨0, 0, 0, 0⟩)
abbrev P : Program := PySem.Challenge.pw_innercommits_k18_rules_refused
/-! ### heaps -/
theorem sz_le {n m : Nat} (h : Nat.ble n m = true) : n ≤ m := Nat.le_of_ble_eq_true h
theorem sz_lt {n m : Nat} (h : Nat.blt n m = true) : n < m := Nat.le_of_ble_eq_true h
theorem upd_old {H : Hp} {p a : Addr} {o u : HO} (h : H a = some u) (hp : H p = none) : upd H p o a = some u := by
  rw [upd_ne (ne_of_none h hp)]; exact h
theorem upd_oth {H : Hp} {p a : Addr} {o u : HO} (hn : a ≠ p) (h : H a = some u) : upd H p o a = some u := by
  rw [upd_ne hn]; exact h
theorem cmul_l {i j : Int} (h : (decide (-(2 ^ 64) < i) && decide (i < 2 ^ 64)) = true) : CMul i j := by
  simp only [Bool.and_eq_true, decide_eq_true_eq] at h
  exact .inl h
theorem cmul_r {i j : Int} (h : (decide (-(2 ^ 64) < j) && decide (j < 2 ^ 64)) = true) : CMul i j := by
  simp only [Bool.and_eq_true, decide_eq_true_eq] at h
  exact .inr h
theorem cpow_lit {i j : Int} (h : (decide (0 ≤ j) && decide (j ≤ 1000000) && decide (i.natAbs < 2 ^ 64)) = true) : CPow i j := by
  simp only [Bool.and_eq_true, decide_eq_true_eq] at h
  exact ⟨h.1.1, h.1.2, h.2⟩
theorem cdiv_lit {i j : Int} (h : (decide (0 < j) && decide (j < 1073741824)) = true) : CDivW i j := by
  simp only [Bool.and_eq_true, decide_eq_true_eq] at h
  exact wide_div (b := 40) h.1 (by omega) (by decide) (by decide)
theorem none_upd {H : Hp} {p b : Addr} {o : HO} (h : upd H p o b = none) : b ≠ p ∧ H b = none := by
  by_cases e : b = p
  · rw [e, upd_same] at h; cases h
  · exact ⟨e, by rw [upd_ne e] at h; exact h⟩
/-- all that was tracked, but S, is as it was -/
def Kp (S : Addr → Prop) (H H' : Hp) : Prop := ∀ b u, H b = some u → ¬ S b → H' b = some u
theorem Kp.refl {S : Addr → Prop} {H : Hp} : Kp S H H := fun _ _ h _ => h
theorem Kp.trans {S : Addr → Prop} {H H1 H2 : Hp} (a : Kp S H H1) (b : Kp S H1 H2) : Kp S H H2 := fun c u h n => b c u (a c u h n) n
theorem Kp.new {S : Addr → Prop} {H H1 : Hp} {p : Addr} {o : HO} (a : Kp S H H1) (h : H1 p = none) : Kp S H (upd H1 p o) := fun c u e n => upd_old (a c u e n) h
theorem Kp.set {S : Addr → Prop} {H H1 : Hp} {p : Addr} {o : HO} (a : Kp S H H1) (h : S p) : Kp S H (upd H1 p o) := fun c u e n => upd_oth (fun z => n (z ▸ h)) (a c u e n)
theorem Kp.set1 {H H1 : Hp} {p : Addr} {o : HO} (a : Kp (fun b => b = p) H H1) : Kp (fun b => b = p) H (upd H1 p o) := a.set rfl
/-- p is none of H's -/
theorem Kp.fresh {S : Addr → Prop} {H H1 : Hp} {p : Addr} {o : HO} (a : Kp S H H1) (h : H p = none) : Kp S H (upd H1 p o) := fun c u e n => upd_oth (ne_of_none e h) (a c u e n)
theorem Kp.mono {S S' : Addr → Prop} {H H1 : Hp} (a : Kp S H H1) (h : ∀ b, S b → S' b) : Kp S' H H1 := fun c u e n => a c u e fun z => n (h c z)
theorem Kp.same {S : Addr → Prop} {H H1 H2 : Hp} (a : Same H H1) (b : Kp S H1 H2) (n : ∀ c, S c → H c = none) : Same H H2 := fun c u h => b c u (a c u h) fun z => by
  rw [n c z] at h; cases h
theorem Kp.of_same {S : Addr → Prop} {H H1 : Hp} (a : Same H H1) : Kp S H H1 := fun c u h _ => a c u h
theorem _root_.L2.Same.new {H H1 : Hp} {p : Addr} {o : HO} (a : Same H H1) (h : H1 p = none) : Same H (upd H1 p o) := fun c u e => upd_old (a c u e) h
theorem _root_.L2.Same.frsh {H H1 : Hp} {p : Addr} {o : HO} (a : Same H H1) (h : H p = none) : Same H (upd H1 p o) := fun c u e => upd_oth (ne_of_none e h) (a c u e)
theorem tyV_lst {K : PySem.W.Frag} {H : Hp} {p : Addr} {xs : List V} (h : SqL K H p xs) : tyV K "list" (.ref p) H := .inl ⟨rfl, xs, h⟩
class RdTy (α : Type) : Prop
instance : RdTy V := ⟨⟩
instance : RdTy Int := ⟨⟩
instance : RdTy Nat := ⟨⟩
instance : RdTy Bool := ⟨⟩
instance : RdTy Str := ⟨⟩
instance : RdTy HO := ⟨⟩
instance : RdTy Value := ⟨⟩
instance : RdTy Obj := ⟨⟩
instance {α : Type} : RdTy (List α) := ⟨⟩
instance {α : Type} : RdTy (Array α) := ⟨⟩
instance {α β : Type} : RdTy (Sum α β) := ⟨⟩
theorem exI {α : Type} [RdTy α] {p : α → Prop} (w : α) (h : p w) : Exists p := ⟨w, h⟩
/-! ### the pool -/
def PoolO (o : HO) (c : Nat) : Prop := ∃ a b n : Int, o = .lst [.int a, .int b, .int n] ∧ 0 ≤ a ∧ 0 ≤ b ∧ b < 2 ^ 62 ∧ 0 ≤ n ∧ n ≤ c
def PoolAt (H : Hp) (p : Addr) (c : Nat) : Prop := ∃ o, H p = some o ∧ PoolO o c
theorem PoolO.mono {o : HO} {c d : Nat} (h : PoolO o c) (l : c ≤ d) : PoolO o d := by
  obtain ⟨a, b, n, e, h1, h2, h3, h4, h5⟩ := h
  exact ⟨a, b, n, e, h1, h2, h3, h4, by omega⟩
def spPool (K : PySem.W.Frag) : Sp := fun vs H Q _ => ∃ (a : Addr) (ns : List Int) (i : Nat), vs = [.ref a, .int (i : Int)] ∧ SqL K H a (ns.map V.int) ∧ i < 1000 ∧
  ∀ p o, H p = none → PoolO o 0 → Q (.ref p) (upd H p o)
def spDraw : Sp := fun vs H Q _ => ∃ (p : Addr) (m : Int) (c : Nat) (o : HO), vs = [.ref p, .int m] ∧ H p = some o ∧ PoolO o c ∧ 0 < m ∧ m < 2 ^ 200 ∧ c < 2 ^ 40 ∧
  ∀ r o', 0 ≤ r → r < m → PoolO o' (c + 1) → Q (.int r) (upd H p o')
local macro_rules | `(tactic| walk_at "hp") => `(tactic| first | with_reducible assumption | with_reducible exact upd_same | (with_reducible apply upd_old; (focus (walk_at "hp")); (focus with_reducible assumption)) | (with_reducible apply upd_oth; (focus (first | with_reducible assumption | (with_reducible apply Ne.symm; with_reducible assumption))); walk_at "hp"))
local macro_rules | `(tactic| walk_at "sq") => `(tactic| first | with_reducible assumption | (with_reducible apply SqL.of; walk_at "hp") | (with_reducible apply SqT.of; walk_at "hp"))
local macro_rules | `(tactic| walk_at "side") => `(tactic| first | with_reducible assumption | exact ⟨_, rfl⟩ | walk_at "hp" | walk_at "sq" | (with_reducible apply tyV_lst; walk_at "sq") | (with_reducible apply Or.inl; walk_at "sq") | (with_reducible apply Or.inr; walk_at "sq") | with_reducible exact cmul_l (by decide) | with_reducible exact cmul_r (by decide) | with_reducible exact cpow_lit (by decide) | with_reducible exact cdiv_lit (by decide) | decide | exact sz_le rfl | exact sz_lt rfl | omega)
local macro_rules | `(tactic| walk_at "kp") => `(tactic| first | with_reducible assumption | with_reducible exact Kp.refl | (with_reducible apply Kp.set1; walk_at "kp") | (with_reducible apply Kp.new; (focus (walk_at "kp")); (focus with_reducible assumption)) | (with_reducible apply Kp.fresh; (focus (walk_at "kp")); (focus with_reducible assumption)))
local macro_rules | `(tactic| walk_at "rd1") => `(tactic| first
  | refine And.intro rfl ?_
  | apply exI
  | (refine Or.inl ?_; apply exI; refine And.intro rfl ?_)
  | (refine Or.inr ?_; apply exI; refine And.intro rfl ?_)
  | (refine And.intro ?_ ?_; (focus (walk_at "side"))))
local macro_rules | `(tactic| walk_at "rd") => `(tactic| repeat (walk_at "rd1"))
/-! ### further rules: a staticmethod called off its class, list of a text -/
/-- C.m is a staticmethod: its record at p, its def at f -/
structure SMet (K : PySem.W.Frag) (C : Addr) (mc : Value) (m : Str) (p f : Addr) : Prop where
  at_ : PySem.W.findCls K (.ref C) mc m = some (.get (.builtin "staticmethod.__get__") (.ref p) .none (.ref C))
  rc : ∃ rest, PySem.W.recIn K p "staticmethod" = some (.ref f :: rest)
def tSMeth (C : Addr) (sp : Sp) (dvs : List V) (E : XK) (ta : TE) (t : TA) : TE := fun σ H Q => ta σ H fun x H1 => x = .ref C ∧ t σ H1 fun vs H2 => sp (vs ++ dvs) H2 Q E
theorem pe_smeth {X : Cx} {CX : CXT} {k : Nat} {C p f : Addr} {fd : FuncData} {ps : List Str} {ds : List Value} {dvs : List V} {mc : Value} {sp : Sp} {E : XK} {o e : Expr} {es : List Expr} {m : Str} {pos apos : Pos} {ta : TE} {t : TA} {pl : Sem Bool}
    (he : PE X o ta) (r : ClX.CRead X.K C mc) (c : SMet X.K C mc m p f) (F : FnOk X.prog X.w X.K X.mg X.base CX k f fd ps sp) (hr : Room k X.A) (hk : PySem.W.keepIn X.K (.ref f) = true) (hb : Binds X.K fd ps ds) (hd : Vals dvs ds) (hx : Passes CX X E) (ha : PA X (e :: es) t)
    (hst : starEach (e :: es) X.env = (false, eval e X.env) :: starEach es X.env := by rfl) (hpl : (backTo pos (starEach es X.env)).any (·.1) = false := by rfl)
    (ht : eval (.Call (.Attribute o m apos) (e :: es) [] pos) X.env = (do
      let ov ← eval o X.env
      standAt apos.atName
      let (f, first) ← holding [ov] (getMethod ov m pl)
      callWith pos f first (backTo pos (starEach (e :: es) X.env)) (backToKw pos (keywordEach [] X.env))) := by rfl) :
    PE X (.Call (.Attribute o m apos) (e :: es) [] pos) (tSMeth C sp dvs E ta t) := by
  refine ⟨fun pins s σ H Q I h => ?_⟩
  refine PySem.W.methodCall_KW (pl := pl) (thn (he.run pins s σ H _ I h) fun u s1 ⟨x, H1, I1, rx, ex, q⟩ => ?_) ht
  subst ex
  obtain rfl : u = Value.ref C := rx
  obtain ⟨rest, hp⟩ := c.rc
  refine PySem.W.method_cls I1.kIn r.ga (PySem.W.cls_bind I1.kIn r.rd c.at_ ?_)
  refine wpAny_call (PySem.W.sm_get (s := { s1 with toks := s1.toks + 1 }) I1.kIn hp (PySem.W.handed_on rfl ?_))
  have I2 := I1.tok (s1.toks + 1)
  refine PySem.W.callWith_K (h₀ := X.base) (first := []) I2.ok.mod.kin hk (thn (ha.run pos pins _ σ H1 _ I2 q) fun us s3 ⟨vs, H2, I3, rv, q2⟩ => ⟨I3.kIn, ?_⟩) hst hpl
  exact run_fn F hr hb hd hx I3 rv q2
theorem call_list_text {X : Cx} (hc : X.calm = true) : CallR X (.type "list") (fun xs H Q => ∃ z : Str, xs = [.str z] ∧ z.length ≤ sizeLine ∧ ∀ l, H l = none → Q (.ref l) (upd H l (.lst (z.cps.toList.map fun c => .str ⟨#[c]⟩)))) := by
  intro pins s σ H xs us Q I r h
  obtain ⟨z, rfl, hz, q⟩ := h
  obtain ⟨u, rfl, t, rfl⟩ := vals1 r
  refine call_list_str (I.ok.hd hc) z t (fun h' tk acc c' kp e it => ?_) hz
  have hv : Vals (z.cps.toList.map fun c => V.str ⟨#[c]⟩) acc.toList := by
    refine vals_of_at (by rw [List.length_map, Array.length_toList, Array.length_toList, it.1]) fun j x u e1 e2 => ?_
    rw [Array.getElem?_toList] at e2
    obtain ⟨c, tk, hc1, rfl⟩ := it.2 j u e2
    rw [List.getElem?_map, Array.getElem?_toList, hc1] at e1
    cases e1
    exact ⟨tk, rfl⟩
  refine ⟨.ref s.heap.objs.size, _, I.laid (o := .lst (z.cps.toList.map fun c => V.str ⟨#[c]⟩)) (t' := tk) kp (Nat.le_refl _) ?_, rfl, q _ (I.hok.fresh (Nat.le_refl _))⟩
  exact ⟨by rw [List.length_map, Array.length_toList]; exact hz, acc.toList, c', hv, by simpa using e⟩
/-! ### data: == of lists and tuples -/
theorem eqvAll_nil {ds : List PyData} : PyData.eqvAll ds [] = ds.isEmpty := by
  cases ds <;> rfl
def asc (z : Str) : Prop := ∀ c ∈ z.cps.toList, c < 128
theorem asc_ok {z : Str} (h : asc z) : PyData.strOk z = true := by
  unfold PyData.strOk
  rw [Array.all_eq_true]
  intro i hi
  have := h z.cps[i] (by rw [Array.mem_toList_iff]; exact Array.getElem_mem hi)
  simp; omega
theorem dp_strs {K : PySem.W.Frag} {H : Hp} : ∀ ys : List Str, DpAll K H (ys.map V.str) (ys.map PyData.str)
  | [] => .nil
  | y :: r => .cons (.str y) (dp_strs r)
theorem lay_strs : ∀ {ys : List Str}, (∀ y ∈ ys, asc y) → PyData.canLayAll0 (ys.map PyData.str) = true
  | [], _ => rfl
  | y :: r, h => by
    show (PyData.strOk y && PyData.canLayAll0 (r.map PyData.str)) = true
    rw [asc_ok (h y List.mem_cons_self), lay_strs fun z hz => h z (List.mem_cons_of_mem _ hz)]; rfl
theorem depth_strs : ∀ ys : List Str, PyData.depthAll (ys.map PyData.str) = 0
  | [] => rfl
  | y :: r => by
    show max 0 (PyData.depthAll (r.map PyData.str)) = 0
    rw [depth_strs r]; rfl
theorem shaped_strs {ys : List Str} (h : ∀ y ∈ ys, asc y) : SeqAt.shaped (.list (ys.map PyData.str)) = true := by
  show (PyData.canLayAll0 (ys.map PyData.str) && decide (PyData.depthAll (ys.map PyData.str) + 1 ≤ 64)) = true
  rw [lay_strs h, depth_strs]; rfl
/-! ### letters -/
def Lets (cs : List Nat) : Prop := ∀ c ∈ cs, 97 ≤ c ∧ c ≤ 122
def chr1 (c : Nat) : Str := ⟨#[c]⟩
structure IsWord (w : Str) : Prop where
  lo : 1 ≤ w.cps.toList.length
  hi : w.cps.toList.length ≤ 8
  al : Lets w.cps.toList
def alpha : Str := "abcdefghijklmnopqrstuvwxyz"
theorem alpha_all : ∀ n : Nat, n < 26 → alpha.cps.toList[n]? = some (97 + n) := by
  have h : (List.range 26).all (fun n => decide (alpha.cps.toList[n]? = some (97 + n))) = true := by decide +kernel
  intro n hn
  exact of_decide_eq_true (List.all_eq_true.mp h n (List.mem_range.mpr hn))
theorem alpha_at {r : Int} (h0 : 0 ≤ r) (h1 : r < 26) : atI alpha.cps.toList r = some (97 + r.toNat) := by
  have e : ((r.toNat : Nat) : Int) = r := by omega
  have h := atI_nat (alpha_all r.toNat (by omega))
  rw [e] at h
  exact h
theorem join_chr : ∀ cs : List Nat, Txt.join (Str.ofString "") (cs.map chr1) = ⟨cs.toArray⟩ := by
  intro cs
  show Builtin.Str.glued (Str.ofString "") (cs.map chr1) = _
  rw [StrLaws.glued_eq_join]
  have e0 : (Str.ofString "") = Str.empty := by decide +kernel
  rw [e0]
  induction cs with
  | nil => rfl
  | cons c r ih =>
    cases r with
    | nil => rfl
    | cons b r =>
      show chr1 c ++ Str.empty ++ Str.join Str.empty ((b :: r).map chr1) = _
      rw [ih]
      show (⟨(#[c] ++ #[]) ++ (b :: r).toArray⟩ : Str) = ⟨(c :: b :: r).toArray⟩
      simp
theorem sum_chr : ∀ cs : List Nat, ((cs.map chr1).map (·.length)).sum = cs.length
  | [] => rfl
  | c :: r => by
    show 1 + ((r.map chr1).map (·.length)).sum = r.length + 1
    rw [sum_chr r]; omega
theorem alpha_len : alpha.length ≤ sizeLine := by decide +kernel
/-- [letters[draw(pool, 26)] for k in range(n)] -/
theorem lc_letters {n i0 i1 ik : Nat} {σ : St} {H1 : Hp} {D p : Addr} {o : HO} {c : Nat} {Qd : Hp → Prop} (hD : H1 D = none) (hp : H1 p = some o) (hc : PoolO o c) (hb : c + n < 2 ^ 40) (hn : n < 1000000)
    (s0 : σ[i0]? = some (some (.ref p))) (s1 : σ[i1]? = some (some (.str alpha))) (n0 : i0 ≠ ik) (n1 : i1 ≠ ik)
    (q : ∀ H' cs o', cs.length = n → Lets cs → Kp (fun b => b = p) H1 H' → H' p = some o' → PoolO o' (c + n) → H' D = some (.lst ((cs.map chr1).map V.str)) → Qd H') :
    ∃ W : Nat → Nat → Hp → Prop, (∃ m, W 0 m (upd H1 D (.lst []))) ∧ ∀ i m H, W i m H →
      ((Itr 0 n).stop i H ∧ Qd H) ∨ ((Itr 0 n).go i H ∧ ∃ Nx : Hp → Prop, (∀ H', Nx H' → ∃ m', m' < m ∧ W (i + 1) m' H') ∧ ∀ x H', (Itr 0 n).yld i H x H' → gName ik x (wipe σ [ik]) H' fun σ2 H2 => wipe σ2 [ik] = wipe σ [ik] ∧ tYes σ2 H2 fun b H3 =>
        if b = true then tOp rIxS (tVar i1) (tCall spDraw [] E0 (tCons (tVar i0) (tCons (tC (.int 26)) tNil))) σ2 H3 fun y H4 => ∃ acc, H4 D = some (.lst acc) ∧ acc.length < sizeLine ∧ Nx (upd H4 D (.lst (acc ++ [y]))) else Nx H3) := by
  have npD : p ≠ D := ne_of_none hp hD
  have w0 : ∀ v, ((wipe σ [ik]).set ik (some v))[i0]? = some (some (.ref p)) := fun v => by
    rw [List.getElem?_set_ne (Ne.symm n0), wipe_out (by simp [n0])]; exact s0
  have w1 : ∀ v, ((wipe σ [ik]).set ik (some v))[i1]? = some (some (.str alpha)) := fun v => by
    rw [List.getElem?_set_ne (Ne.symm n1), wipe_out (by simp [n1])]; exact s1
  refine lc_range (fun i H => ∃ cs o', cs.length = i ∧ Lets cs ∧ Kp (fun b => b = p) H1 H ∧ H p = some o' ∧ PoolO o' (c + i) ∧ H D = some (.lst ((cs.map chr1).map V.str))) ?_ ?_ ?_
  · exact ⟨[], o, rfl, (fun _ h => nomatch h), Kp.refl.new hD, upd_old hp hD, hc, upd_same⟩
  · rintro i H hi ⟨cs, o', e1, e2, e3, e4, e5, e6⟩
    refine ⟨?_, ?_⟩
    · show wipe ((wipe σ [ik]).set ik _) [ik] = wipe σ [ik]
      show (((σ.set ik none).set ik _).set ik none) = σ.set ik none
      rw [List.set_set, List.set_set]
    · refine ⟨_, w1 _, _, w0 _, p, 26, c + i, o', rfl, e4, e5, by decide, by decide, by omega, fun r o2 r0 r1 h2 => ?_⟩
      refine ⟨alpha, r, _, rfl, rfl, alpha_len, alpha_at r0 r1, (cs.map chr1).map V.str, upd_oth (Ne.symm npD) e6, ?_, ?_⟩
      · rw [List.length_map, List.length_map, e1, sizeLine_eq]; omega
      · refine ⟨cs ++ [97 + r.toNat], o2, ?_, ?_, ?_, ?_, h2, ?_⟩
        · rw [List.length_append, e1]; rfl
        · intro x hx
          rcases List.mem_append.mp hx with h | h
          · exact e2 x h
          · rw [List.mem_singleton] at h
            subst h
            omega
        · exact (e3.set rfl).fresh hD
        · exact upd_oth npD upd_same
        · rw [upd_same, List.map_append, List.map_append]; rfl
  · rintro H ⟨cs, o', e1, e2, e3, e4, e5, e6⟩
    exact q H cs o' e1 e2 e3 e4 e5 e6
def spWord : Sp := fun vs H Q _ => ∃ (p : Addr) (c : Nat) (o : HO), vs = [.ref p] ∧ H p = some o ∧ PoolO o c ∧ c < 2 ^ 39 ∧
  ∀ w o' H', IsWord w → PoolO o' (c + 9) → H' p = some o' → Kp (fun b => b = p) H H' → Q (.str w) H'
/-! ### words -/
def okC (c : Nat) : Bool := decide (97 ≤ c) && decide (c ≤ 122)
def wordS (z : Str) : Bool := decide (1 ≤ z.length) && decide (z.length ≤ 8) && z.cps.toList.all okC
def wordB : V → Bool
  | .str z => wordS z
  | _ => false
inductive Thing (H : Hp) : V → Prop
  | str (z : Str) (h : z.length ≤ 1000) (ha : asc z) : Thing H (.str z)
  | int (i : Int) : Thing H (.int i)
  | bl (b : Bool) : Thing H (.bl b)
  | non : Thing H .non
  | lst {p : Addr} {xs : List V} (h : H p = some (.lst xs)) : Thing H (.ref p)
  | tup {p : Addr} {xs : List V} (h : H p = some (.tup xs)) : Thing H (.ref p)
theorem Thing.same {H H' : Hp} {v : V} (s : Same H H') (t : Thing H v) : Thing H' v := by
  cases t with
  | str z h ha => exact .str z h ha
  | int i => exact .int i
  | bl b => exact .bl b
  | non => exact .non
  | lst h => exact .lst (s _ _ h)
  | tup h => exact .tup (s _ _ h)
def strB : V → Bool
  | .str _ => true
  | _ => false
theorem Thing.isi {K : PySem.W.Frag} {H : Hp} {v : V} (t : Thing H v) : ∃ ty, TyX K H v ty ∧ PySem.W.kitOne K ty (.type "str") = some (strB v) := by
  cases t with
  | str z h ha => exact ⟨_, .base (.str z), kit_ty (show kitB "str" "str" = some true by decide +kernel)⟩
  | int i => exact ⟨_, .base (.int i), kit_ty (show kitB "int" "str" = some false by decide +kernel)⟩
  | bl b => exact ⟨_, .base (.bl b), kit_ty (show kitB "bool" "str" = some false by decide +kernel)⟩
  | non => exact ⟨_, .base .non, kit_ty (by decide +kernel)⟩
  | lst h => exact ⟨_, .base (.lst h), kit_ty (show kitB "list" "str" = some false by decide +kernel)⟩
  | tup h => exact ⟨_, .base (.tup h), kit_ty (show kitB "tuple" "str" = some false by decide +kernel)⟩
theorem list1_lt (a b : Nat) : ([a] : List Nat) < [b] ↔ a < b := by
  constructor
  · intro h
    cases h with
    | rel h => exact h
    | cons h => cases h
  · intro h
    exact .rel h
theorem le_a (c : Nat) : (!decide ((⟨#[c]⟩ : Str).cps.toList < (Str.ofString "a").cps.toList)) = decide (97 ≤ c) := by
  have e : (Str.ofString "a").cps.toList = [97] := by decide +kernel
  rw [e, ← decide_not]
  apply decide_eq_decide.mpr
  show ¬ ([c] < [97]) ↔ _
  rw [list1_lt]; omega
theorem le_z (c : Nat) : (!decide ((Str.ofString "z").cps.toList < (⟨#[c]⟩ : Str).cps.toList)) = decide (c ≤ 122) := by
  have e : (Str.ofString "z").cps.toList = [122] := by decide +kernel
  rw [e, ← decide_not]
  apply decide_eq_decide.mpr
  show ¬ ([122] < [c]) ↔ _
  rw [list1_lt]; omega
theorem all_take {α : Type} {p : α → Bool} {l : List α} {i : Nat} {x : α} (h : l[i]? = some x) (a : (l.take i).all p = true) (b : p x = true) : (l.take (i + 1)).all p = true := by
  rw [List.take_add_one, h, List.all_append, a, Bool.true_and]
  show ([x] : List α).all p = true
  rw [List.all_cons, b]; rfl
theorem all_no {α : Type} {p : α → Bool} {l : List α} {i : Nat} {x : α} (h : l[i]? = some x) (b : p x = false) : l.all p = false := by
  cases e : l.all p with
  | false => rfl
  | true =>
    rw [List.all_eq_true.mp e x (List.mem_of_getElem? h)] at b
    cases b
theorem len_toList (z : Str) : z.cps.toList.length = z.length := by simp [Str.length]
theorem IsWord.ok {w : Str} (h : IsWord w) : wordS w = true := by
  unfold wordS
  rw [← len_toList, decide_eq_true h.lo, decide_eq_true h.hi, Bool.true_and, Bool.true_and, List.all_eq_true]
  intro c hc
  have := h.al c hc
  unfold okC
  rw [decide_eq_true this.1, decide_eq_true this.2]; rfl
theorem wordS_of {z : Str} (h : wordS z = true) : IsWord z := by
  unfold wordS at h
  rw [Bool.and_eq_true, Bool.and_eq_true, decide_eq_true_eq, decide_eq_true_eq, List.all_eq_true] at h
  refine ⟨by rw [len_toList]; exact h.1.1, by rw [len_toList]; exact h.1.2, fun c hc => ?_⟩
  have := h.2 c hc
  unfold okC at this
  rw [Bool.and_eq_true, decide_eq_true_eq, decide_eq_true_eq] at this
  exact this
def spIsWord : Sp := fun vs H Q _ => ∃ v, vs = [v] ∧ Thing H v ∧ Q (.bl (wordB v)) H
/-! ### own errors: an __init__ that says super().__init__(text) and stores fields -/
/-- the stores of an __init__: self.F = a parameter | a text -/
inductive Sts (ps : List Str) : List Stmt → List (Str × Sum Nat Str) → Prop
  | nil : Sts ps [] []
  | par {F p : Str} {i : Nat} {q1 q2 q3 q4 : Pos} {r : List Stmt} {fs : List (Str × Sum Nat Str)} (h : ps[i]? = some p) (t : Sts ps r fs) : Sts ps (.Assign [.Attribute (.Name "self" q1) F q2] (.Name p q3) q4 :: r) ((F, .inl i) :: fs)
  | con {F c : Str} {j : Nat} {q1 q2 q3 q4 : Pos} {r : List Stmt} {fs : List (Str × Sum Nat Str)} (t : Sts ps r fs) : Sts ps (.Assign [.Attribute (.Name "self" q1) F q2] (.Constant (.str c) j q3) q4 :: r) ((F, .inr c) :: fs)
def fldV (vs : List V) : Sum Nat Str → V
  | .inl i => vs.getD i .non
  | .inr c => .str c
def errF (vs : List V) : List (Str × Sum Nat Str) → List (Str × V) → List (Str × V)
  | [], acc => acc
  | p :: r, acc => errF vs r ((p.1, fldV vs p.2) :: acc)
/-- an exception while its __init__ runs -/
structure ErrAt (h0 h : Heap) (x C L : Addr) (m : Str → Option Value) (acc : List (Str × V)) (dd : Option Addr) : Prop where
  keep : ∀ b o, b ≠ x → h0.get? b = some o → h.get? b = some o
  sz : h0.objs.size ≤ h.objs.size
  ns : h.Ns L m
  obj : ∃ t1 : Addr, h.get? x = some ({ cls := .ref C, dict := dd, data := .fields #[.ref t1, .none, .none, .none, .bool false, .none] } : Obj)
  dct : match dd with | none => acc = [] | some dx => acc ≠ [] ∧ h0.objs.size ≤ dx ∧ dx ≠ x ∧ dx ≠ L ∧ ∃ mA, h.Ns1 dx mA ∧ ∀ f, RelO (acc.lookup f) (mA f)
theorem kept_but {K : PySem.W.Frag} {h h' : Heap} {x : Addr} (X : K.In h) (hx : K.lookup x = none) (k : ∀ b o, b ≠ x → h.get? b = some o → h'.get? b = some o) : K.In h' := fun a o e =>
  k a o (fun z => by rw [z, hx] at e; cases e) (X a o e)
/-- what the written part says of an error's class, at C; its __init__ at fI -/
structure ErrC (P : Program) (K : PySem.W.Frag) (C fI : Addr) (st : Stmt) (q : Str) (ps : List Str) (fs : List (Str × Sum Nat Str)) : Prop where
  cls : ∃ nm qn N bs bm sn sub ab col dd k0 k1 k2 k3 k5, K.lookup C = some (excClassObj nm qn C N bs bm true sn sub ab col dd k0 k1 k2 k3 k5 "ValueError.__new__") ∧ PySem.HandSPX.refsVE bm = true
  sa : PySem.W.findIn K (.ref C) "__setattr__" = some (some (.builtin "object.__setattr__"))
  ga : PySem.W.findIn K (.ref C) "__getattribute__" = some (some (.builtin "BaseException.__getattribute__"))
  gg : PySem.W.findIn K (.ref C) "__getattr__" = some none
  noF : ∀ p ∈ fs, PySem.W.findIn K (.ref C) p.1 = some none
  iC : PySem.W.findIn K (.ref C) "__init__" = some (some (.ref fI))
  tC : PySem.W.typeIn K (.ref fI) = some (.type "function")
  kC : PySem.W.keepIn K (.ref C) = true
  exC : PySem.W.subIn K (.ref C) (.type "BaseException") = some true
  veC : PySem.W.subIn K (.ref C) (.type "ValueError") = some true
  tyC : PySem.W.typeIn K (.ref C) = some (.type "type")
  hdC : PySem.W.hasDictIn K C = true
  su : PySem.W.ks_superIn K C C "__init__" = some (some (.builtin "ValueError.__init__"))
  mro : PySem.W.mroIn K C (.ref C) = some true
  te : PySem.W.exmOne K (.ref C) (.ref C) = some true
  op : PySem.W.nsIn K cStatics "thirdparty.any" = some none
  fn : ∃ (oc : Value) (od : Option Addr) (doc pm : Value) (an : Option Addr) (cda cc : Addr) (ct : Value) (osl : Array (Option Value)) (ccl : Value) (cdd : Option Addr) (vs : Array Value) (ccs : Array (Option Value)) (tf : Tok) (cl : Value) (cld : Option Addr) (csl : Array (Option Value)),
    K.lookup fI = some ⟨oc, od, .func (PySem.W.ksFn "__init__" q (defArgs st) (defBody st) (defScope st) .none .none doc pm an (.ref cda) ct cc), osl⟩ ∧ PySem.W.codeIn K (.ref cda) q = true ∧
    K.lookup cda = some ⟨ccl, cdd, .fields vs, ccs⟩ ∧ vs[2]? = some (.str P.main.file tf) ∧ K.lookup cc = some ⟨cl, cld, .cell (some (.ref C)), csl⟩
  hd : ∃ ar : Arg, ((defArgs st).posonlyargs ++ (defArgs st).args).head? = some ar ∧ ar.arg = "self"
  bd : ∀ (doc pm : Value) (an : Option Addr) (cda cc : Addr) (ct : Value) (us : List Value), us.length = ps.length + 1 → bindArgs (PySem.W.ksFn "__init__" q (defArgs st) (defBody st) (defScope st) .none .none doc pm an (.ref cda) ct cc) ⟨us, []⟩ = pure ((("self" : Str) :: ps).zip us)
  bo : ∃ (p0 p1 p2 p3 p4 p5 : Pos) (j : Nat) (msg : Str) (sts : List Stmt), defBody st = .Expr (.Call (.Attribute (.Call (.Name "super" p0) [] [] p1) "__init__" p2) [.Constant (.str msg) j p3] [] p4) p5 :: sts ∧ Sts ps sts fs ∧
    ∀ (L cda cc : Addr), ∃ pl : Sem Bool, eval (.Call (.Attribute (.Call (.Name "super" p0) [] [] p1) "__init__" p2) [.Constant (.str msg) j p3] [] p4) (PySem.W.ksEnv q (defScope st) L fI (.ref cda) cc) = (do
      let ov ← attributeBase (.Call (.Name "super" p0) [] [] p1) "__init__" (PySem.W.ksEnv q (defScope st) L fI (.ref cda) cc) (eval (.Call (.Name "super" p0) [] [] p1) (PySem.W.ksEnv q (defScope st) L fI (.ref cda) cc))
      standAt p2.atName
      let (f, first) ← holding [ov] (getMethod ov "__init__" pl)
      callWith p4 f first (backTo p4 (starEach [.Constant (.str msg) j p3] (PySem.W.ksEnv q (defScope st) L fI (.ref cda) cc))) [])
  sck : (defScope st).kind = .function
  scc : (defScope st).isCoroutine = false
  scg : (defScope st).isGenerator = false
  scn : ∀ x ∈ (defScope st).names, x.2 ≠ .cell
  scl : ∀ x ∈ (("self" : Str) :: ps), (defScope st).names.lookup x = some .local
  scs : (defScope st).names.lookup ("super" : Str) = some .globalImplicit
  scf : (defScope st).names.lookup ("__class__" : Str) = some .free
  nd : (("self" : Str) :: ps).Nodup
  top : (P.main.scope.names.lookup ("super" : Str)).isSome = false
section
open PySem PySem.W PySem.Calls PyProof.Rows PySem.HandSPX
variable {prog : Program} {w : World} {A : Around} {K : PySem.W.Frag} {C fI : Addr} {st : Stmt} {q : Str} {ps : List Str} {fs : List (Str × Sum Nat Str)}
theorem err_stores (T : ErrC prog K C fI st q ps fs) {h0 : Heap} {x L : Addr} {m : Str → Option Value} {vs : List V} {env : Env} {E : Value → Shared → Prop} (X0 : K.In h0) (hnx : K.lookup x = none) (hLx : L ≠ x)
    (hself : m "self" = some (.ref x)) (hpar : ∀ (i : Nat) p, ps[i]? = some p → ∃ v u, vs[i]? = some v ∧ RelV v u ∧ m p = some u)
    (hk : env.scope.kind = .function) (hlo : env.locals = L) (hkl : ∀ y ∈ (("self" : Str) :: ps), env.kindOf y = some .local) (hdb : ∀ y ∈ (("self" : Str) :: ps), (y == ("__debug__" : Str)) = false) :
    ∀ {sts : List Stmt} {fs' : List (Str × Sum Nat Str)}, Sts ps sts fs' → (∀ p ∈ fs', p ∈ fs) → ∀ {acc : List (Str × V)} {dd : Option Addr} {s : Shared} {Q : Flow → Shared → Prop}, ErrAt h0 s.heap x C L m acc dd → acc.length + fs'.length ≤ 100 →
      (∀ h' tk dd', ErrAt h0 h' x C L m (errF vs fs' acc) dd' → Q .next { s with heap := h', toks := tk }) → wpAny (model prog w) A (execs sts env) Q E s := by
  obtain ⟨nm, qn, N, bs, bm, sn, sub, ab, col, dd0, k0, k1, k2, k3, k5, hC, hbm⟩ := T.cls
  have hcl : clsIn K C = some { name := nm, bases := bs, mro := .ref C :: bm, ns := N, qualname := qn, hasDict := true, slotNames := sn, subclasses := sub, abstract := ab, collection := col, hasDel := false } := by unfold clsIn; rw [hC] <;> rfl
  have ldl : ∀ {y : Str} {u : Value} {pos : Pos} {s : Shared} {Q : Value → Shared → Prop}, y ∈ (("self" : Str) :: ps) → s.heap.Ns L m → m y = some u → Q u s → wpAny (model prog w) A (eval (.Name y pos) env) Q E s :=
    fun {y u pos s Q} hy hn hv h => wpAny_Name (wpAny_loadName_local hk (hkl y hy) (by rw [hlo]; exact hn) hv h) (hdb y hy)
  have hsf : ("self" : Str) ∈ (("self" : Str) :: ps) := List.mem_cons_self
  -- one store
  have one : ∀ {F : Str} {y : V} {u : Value} {acc : List (Str × V)} {dd : Option Addr} {s : Shared} {Q : Unit → Shared → Prop}, findIn K (.ref C) F = some none → RelV y u → ErrAt h0 s.heap x C L m acc dd → acc.length ≤ 99 →
      (∀ h' tk dd', ErrAt h0 h' x C L m ((F, y) :: acc) dd' → Q () { s with heap := h', toks := tk }) → wpAny (model prog w) A (setAttr (.ref x) F u) Q E s := by
    intro F y u acc dd s Q hF ry S hl hq
    obtain ⟨kp, sz, hn, ⟨t1, hx⟩, hd⟩ := S
    have X : K.In s.heap := kept_but X0 hnx kp
    obtain ⟨hp, g, d, tk, os⟩ := s
    obtain ⟨oL, esL, epL, hoL, hrL⟩ := id hn
    cases dd with
    | none =>
      have hd : acc = [] := hd
      subst hd
      refine set_plain X (ox := excO C t1) (od := none) ⟨hx, rfl, rfl, trivial⟩ T.sa ?_
      refine exc_osa X hx hcl (show refsVE (.ref C :: bm) = true from hbm) rfl hF (fun h₃ tk₃ dx k₃ dn dne hx₃ hn₃ => ?_)
      have dL : dx ≠ L := fun z => by
        have := Heap.lt_size hoL
        rw [← z] at this
        exact absurd (Nat.lt_of_lt_of_le this dn) (Nat.lt_irrefl _)
      have z3 : dx < h₃.objs.size := by
        obtain ⟨o, _, _, e, _⟩ := hn₃
        exact Heap.lt_size e
      refine hq h₃ tk₃ (some dx) ⟨fun b o hb e => k₃ b o hb (kp b o hb e), Nat.le_of_lt (Nat.lt_of_le_of_lt (Nat.le_trans sz dn) z3), ⟨oL, esL, epL, k₃ _ _ hLx hoL, hrL⟩, ⟨t1, hx₃⟩, ?_⟩
      exact ⟨List.cons_ne_nil _ _, Nat.le_trans sz dn, dne, dL, _, hn₃, relO_put (fs := []) ry fun g => True.intro⟩
    | some dx =>
      obtain ⟨_, d1, d2, d3, mA, hns, rel⟩ := hd
      have hw := within_of rel
      obtain ⟨oD, _, _, hoD, _, _⟩ := hns.count hw
      refine set_plain X (ox := { cls := .ref C, dict := some dx, data := .fields #[.ref t1, .none, .none, .none, .bool false, .none] }) (od := some oD) ⟨hx, rfl, rfl, hoD⟩ T.sa ?_
      refine PySem.OEX.osa_old X hx hns hw (by rw [List.length_map]; omega) hcl (show refsVE (.ref C :: bm) = true from hbm) rfl hF (fun h' tk' k hn' => ?_)
      have z3 : dx < h'.objs.size := by
        obtain ⟨o, _, _, e, _⟩ := hn'
        exact Heap.lt_size e
      refine hq h' tk' (some dx) ⟨fun b o hb e => k b o (fun z => ?_) (kp b o hb e), Nat.le_of_lt (Nat.lt_of_le_of_lt d1 z3), ⟨oL, esL, epL, k _ _ (Ne.symm d3) hoL, hrL⟩, ⟨t1, k _ _ (Ne.symm d2) hx⟩, ⟨List.cons_ne_nil _ _, d1, d2, d3, _, hn', relO_put ry rel⟩⟩
      have := Heap.lt_size e
      rw [z] at this
      exact absurd (Nat.lt_of_lt_of_le this d1) (Nat.lt_irrefl _)
  intro sts fs' S
  induction S with
  | nil =>
    intro hfs acc dd s Q S hl hq
    exact wpAny_execs_nil (by have := hq s.heap s.toks dd S; exact this)
  | @par F p i q1 q2 q3 q4 r fs1 h t ih =>
    intro hfs acc dd s Q S hl hq
    obtain ⟨v, u, hv, ru, hm⟩ := hpar i p h
    have hp : p ∈ (("self" : Str) :: ps) := List.mem_cons_of_mem _ (List.mem_of_getElem? h)
    refine wpAny_execs_cons (plainObj_wpAny_Assign_Attribute ?_)
    refine ldl hp S.ns hm (ldl hsf S.ns hself ?_)
    have hl2 : acc.length + (fs1.length + 1) ≤ 100 := hl
    refine one (hfs _ List.mem_cons_self |> T.noF _) ru S (by omega) fun h' tk dd' S' => ?_
    refine ih (fun z hz => hfs z (List.mem_cons_of_mem _ hz)) (s := { s with heap := h', toks := tk }) S' (by rw [List.length_cons]; omega) fun h'' tk' dd'' S'' => ?_
    have e : errF vs ((F, Sum.inl i) :: fs1) acc = errF vs fs1 ((F, v) :: acc) := by
      show errF vs fs1 ((F, vs.getD i .non) :: acc) = _
      rw [List.getD_eq_getElem?_getD, hv]; rfl
    rw [e] at hq
    exact hq h'' tk' dd'' S''
  | @con F c j q1 q2 q3 q4 r fs1 t ih =>
    intro hfs acc dd s Q S hl hq
    refine wpAny_execs_cons (plainObj_wpAny_Assign_Attribute ?_)
    refine Calls.Constant_str (ldl (s := { s with toks := s.toks + 1 }) hsf S.ns hself ?_)
    have hl2 : acc.length + (fs1.length + 1) ≤ 100 := hl
    refine one (y := .str c) (s := { s with toks := s.toks + 1 }) (hfs _ List.mem_cons_self |> T.noF _) ⟨_, rfl⟩ S (by omega) fun h' tk dd' S' => ?_
    refine ih (fun z hz => hfs z (List.mem_cons_of_mem _ hz)) (s := { s with heap := h', toks := tk }) S' (by rw [List.length_cons]; omega) fun h'' tk' dd'' S'' => ?_
    exact hq h'' tk' dd'' S''
end
section
open PySem PySem.W PySem.Calls PyProof.Rows PySem.HandSPX
variable {prog : Program} {w : World} {A : Around} {K : PySem.W.Frag} {C fI : Addr} {st : Stmt} {q : Str} {ps : List Str} {fs : List (Str × Sum Nat Str)}
theorem call_mw (T : ErrC prog K C fI st q ps fs) {E : Value → Shared → Prop} {h : Heap} {g : Array GenState} {d : Drawn} {t : Nat} {os : OsState} {u e t0 : Addr} {rest : List Value} {Q : Value → Shared → Prop} (X : K.In h)
    (he : h.get? e = some (excO C t0)) (hu : h.get? u = some (kxs_mw "ValueError.__init__" e)) (hrest : rest.length ≤ sizeLine)
    (hq : ∀ h' t1, (∀ b o, b ≠ e → h.get? b = some o → h'.get? b = some o) → h'.get? e = some (excO C t1) → Q .none ⟨h', g, d, t, os⟩) :
    wpAny (model prog w) A (call (.ref u) rest) Q E ⟨h, g, d, t, os⟩ := by
  obtain ⟨nm, qn, N, bs, bm, sn, sub, ab, col, dd0, k0, k1, k2, k3, k5, hC, hbm⟩ := T.cls
  refine wpAny_call (codeAny_of_tree ?_)
  show wpAny _ A.in1 (callAny (.ref u) ⟨rest, []⟩) _ _ _
  simp only [callAny]
  refine wpAny_bind (wpAny_load hu ?_)
  simp only [kxs_mw, show (Value.type "method-wrapper" == Value.type "method" || Value.type "method-wrapper" == Value.type "builtin_function_or_method" || Value.type "method-wrapper" == Value.type "method-wrapper") = true by decide, if_true]
  refine KFB.if_so (by decide) ?_
  refine wpAny_bind (check_bound_init F.excBase_ValueError.toExcCallFacts (X _ _ hC) he rfl ?_)
  refine wpAny_bind (wpAny_pure (wpAny_pure ?_))
  refine ⟨plainId_quiet F.excBase_ValueError.init.plain _, codeAny_builtin F.excBase_ValueError.initEntry ?_⟩
  exact exc_init_tree (cls := .ref C) (t0 := t0) (dv := none) (c2 := .none) (c3 := .none) (b4 := .bool false) he hrest fun h' k e1 _ => hq h' _ k e1
theorem err_initA {args : Args} (T : ErrC prog K C fI st q ps fs) {R : Result → Shared → Prop} {s : Shared} {x t0 : Addr} {vs : List V} {us : List Value} {mg : Str → Option Value} (X : K.In s.heap) (hlim : s.heap.NoLimit)
    (G : s.heap.Ns mainGlobals mg) (hsup : mg "super" = none) (B : ∃ mb, s.heap.Ns builtinsNs mb ∧ ∀ y : Str, y ≠ "__name__" → mb y = bootBuiltins y)
    (hx : s.heap.get? x = some (excO C t0)) (hnx : K.lookup x = none) (hroom : A.depth < recursionLimit) (hv : Vals vs us) (hlen : vs.length = ps.length) (hfs : fs.length ≤ 90) (hdb : ∀ y ∈ (("self" : Str) :: ps), (y == ("__debug__" : Str)) = false)
    (hba : ∀ (doc pm : Value) (an : Option Addr) (cda cc : Addr) (ct : Value), bindArgs (PySem.W.ksFn "__init__" q (defArgs st) (defBody st) (defScope st) .none .none doc pm an (.ref cda) ct cc) args = pure ((("self" : Str) :: ps).zip (.ref x :: us)))
    (hq : ∀ h' tk dd L m, L ≠ x → s.heap.objs.size ≤ L → ErrAt s.heap h' x C L m (errF vs fs []) dd → R (.ok (.ret .none)) { s with heap := h', toks := tk }) :
    codeAny (model prog w) A (.call (.ref fI) args) R s := by
  obtain ⟨oc, od, doc, pm, an, cda, cc, ct, osl, ccl, cdd, cvs, ccs, tf, cl, cld, csl, ho, hcd, hcode, hcv, hcell⟩ := T.fn
  obtain ⟨nm, qn, N, bs, bm, sn, sub, ab, col, dd0, k0, k1, k2, k3, k5, hC, hbm⟩ := T.cls
  obtain ⟨p0, p1, p2, p3, p4, p5, j, msg, sts, hbody, hsts, hev⟩ := T.bo
  obtain ⟨ar, har, hself⟩ := T.hd
  have hcl : clsIn K C = some { name := nm, bases := bs, mro := .ref C :: bm, ns := N, qualname := qn, hasDict := true, slotNames := sn, subclasses := sub, abstract := ab, collection := col, hasDel := false } := by unfold clsIn; rw [hC] <;> rfl
  have hul : us.length = ps.length := by rw [← hlen]; exact hv.length.symm
  have hbind := BindsTo.of_eq (s := s) (hba doc pm an cda cc ct)
  have binK : ∀ y ∈ ((("self" : Str) :: ps).zip (Value.ref x :: us)), (defScope st).names.lookup y.1 = some .local := fun ⟨n, u⟩ hy => T.scl n (List.of_mem_zip hy).1
  refine ks_codeAny_call_defAt (fd := ksFn "__init__" q (defArgs st) (defBody st) (defScope st) .none .none doc pm an (.ref cda) ct cc) (body := defBody st) (binds := (("self" : Str) :: ps).zip (Value.ref x :: us)) hroom (X _ _ ho) rfl hlim (codeRec_of X hcd) rfl hbind T.scn binK (fun h₁ hns hk₁ => ?_) T.scc T.scg T.sck
  have X₁ : K.In h₁ := X.keeps hk₁
  have hx₁ := hk₁ _ _ hx
  have hLx : s.heap.objs.size ≠ x := Nat.ne_of_gt (Heap.lt_size hx)
  have sz1 : s.heap.objs.size < h₁.objs.size := hns.lt
  generalize hm : (fun y => (List.reverse ((("self" : Str) :: ps).zip (Value.ref x :: us))).lookup y) = m at hns
  have key : ∀ (l1 : List Str) (l2 : List Value) (i : Nat) (y : Str) (u : Value), l1.Nodup → l1[i]? = some y → l2[i]? = some u → (List.reverse (l1.zip l2)).lookup y = some u := by
    intro l1
    induction l1 with
    | nil => intro l2 i y u _ h _; simp at h
    | cons a r ih =>
      intro l2 i y u nd h1 h2
      cases l2 with
      | nil => simp at h2
      | cons b l2 =>
        rw [List.zip_cons_cons, List.reverse_cons, List.lookup_append]
        cases i with
        | zero =>
          simp only [List.getElem?_cons_zero, Option.some.injEq] at h1 h2
          subst h1 h2
          have : (List.reverse (r.zip l2)).lookup a = none := by
            rw [List.lookup_eq_none_iff]
            intro p hp
            have hp' := List.mem_reverse.mp hp
            have := (List.of_mem_zip (show (p.1, p.2) ∈ r.zip l2 from hp')).1
            simp only [beq_eq_false_iff_ne, ne_eq, bne_iff_ne]
            intro e
            rw [e] at nd
            exact (List.nodup_cons.mp nd).1 this
          rw [this]
          simp [List.lookup]
        | succ i =>
          rw [ih l2 i y u (List.nodup_cons.mp nd).2 h1 h2]; rfl
  have mself : m "self" = some (.ref x) := by rw [← hm]; exact key _ _ 0 _ _ T.nd rfl rfl
  have mpar : ∀ (i : Nat) p, ps[i]? = some p → ∃ v u, vs[i]? = some v ∧ RelV v u ∧ m p = some u := fun i p hp => by
    have hi : i < vs.length := by rw [hlen]; exact (List.getElem?_eq_some_iff.mp hp).1
    obtain ⟨u, hu, ru⟩ := hv.get (List.getElem?_eq_getElem hi)
    refine ⟨_, u, List.getElem?_eq_getElem hi, ru, ?_⟩
    rw [← hm]
    exact key _ _ (i + 1) _ _ T.nd hp hu
  have hDget : h₁.get? C = some (excClassObj nm qn C N bs bm true sn sub ab col dd0 k0 k1 k2 k3 k5 "ValueError.__new__") := X₁ _ _ hC
  obtain ⟨pl, hev⟩ := hev s.heap.objs.size cda cc
  show _root_.PySem.wpAt _ (A.deeper (ksEnv q (defScope st) s.heap.objs.size fI (.ref cda) cc)) (.func (defBody st) (ksEnv q (defScope st) s.heap.objs.size fI (.ref cda) cc)) (execs (defBody st) (ksEnv q (defScope st) s.heap.objs.size fI (.ref cda) cc)) _ _ _
  generalize henv : ksEnv q (defScope st) s.heap.objs.size fI (.ref cda) cc = env at hev ⊢
  have e1 : env.scope = defScope st := by rw [← henv]
  have e2 : env.locals = s.heap.objs.size := by rw [← henv]
  have e3 : env.func = some fI := by rw [← henv]
  have e4 : env.code = .ref cda := by rw [← henv]
  have e5 : env.globals = mainGlobals := by rw [← henv]
  have e6 : env.builtins = builtinsNs := by rw [← henv]
  have e7 : env.cells.lookup ("__class__" : Str) = some cc := by rw [← henv]; rfl
  have kd : ∀ y, env.kindOf y = (defScope st).names.lookup y := fun y => by rw [← henv]; rfl
  have hkf : env.scope.kind = .function := by rw [e1]; exact T.sck
  generalize hbb : defBody st = body
  rw [hbb] at hbody
  have hbody2 : execs body env = execs (.Expr (.Call (.Attribute (.Call (.Name "super" p0) [] [] p1) "__init__" p2) [.Constant (.str msg) j p3] [] p4) p5 :: sts) env := by rw [hbody]
  rw [hbody2]
  refine ks_wpAt_execs_cons (ks_wpAt_Expr_any ?_ (by simp [interactive, hkf]) rfl)
  refine ks_wpAt_MethodCall (pl := pl) ?_ hev
  refine ks_wpAt_super_base ((kd _).trans T.scs) ((kd _).trans T.scf) (by decide) e3 (hk₁ _ _ (X _ _ ho)) rfl har e4 (X₁ _ _ hcode) rfl hcv (by simp) T.top ?_
  obtain ⟨mb, hB1, hB2⟩ := B
  refine ks_loadName_global hkf ((kd _).trans T.scs) (loadGlobal_builtin (by rw [e5]; exact G.keeps hk₁) hsup (by rw [e6]; exact hB1.keeps hk₁) ((hB2 _ (by decide)).trans (by decide +kernel)) ⟨rfl, ?_⟩)
  refine wpAny_loadName_free hkf ((kd _).trans T.scf) e7 ⟨_, X₁ _ _ hcell, rfl⟩ ?_
  rw [hself]
  refine wpAny_loadName_local hkf ((kd _).trans (T.scl _ List.mem_cons_self)) (by rw [e2]; exact hns) mself ?_
  refine ks_wpAny_isType_cls hDget rfl ⟨rfl, ?_⟩
  obtain ⟨hp0, g, d, tk, os⟩ := s
  refine ks_wpAny_call_super (ox := excO C t0) hDget rfl hx₁ rfl (fun c e => nomatch e) (looks_mroIn X₁ T.mro) (fun h₂ e₂ k₂ => ?_)
  have X₂ : K.In h₂ := X₁.keeps k₂
  have I₂ : InstAt h₂ x (excO C t0) C none := ⟨k₂ _ _ hx₁, rfl, rfl, trivial⟩
  have hsu := T.su
  unfold ks_superIn at hsu
  rw [hcl] at hsu
  refine kxs_getMethod kxs_ValueError e₂ (looks_opaque X₂ T.op) (l₀ := .ref C :: bm) ?_ rfl X₂ hsu (I₂.type.andThen (looks_subIn X₂ T.veC)) (ks_ne X₂ I₂ hcl) (by decide) ?_
  · exact fun A Q E s k q => wpAny_bind ((looks_clsIn X₂ hcl) A _ E s k (wpAny_pure q))
  have hu : (h₂.push (kxs_mw "ValueError.__init__" x)).get? h₂.objs.size = some (kxs_mw "ValueError.__init__" x) := Heap.get?_push_at rfl rfl
  have k₃ : ∀ b o, h₂.get? b = some o → (h₂.push (kxs_mw "ValueError.__init__" x)).get? b = some o := fun b o e => Heap.get?_push_of_some _ e
  show wpAny _ _ (callWith p4 (.ref h₂.objs.size) [] (backTo p4 (starEach [.Constant (.str msg) j p3] env)) []) _ _ _
  refine kxs_callWith (i := "ValueError.__init__") (x := x) rfl (evalArgs_plain ?_)
  show wpAny _ _ (spliced [(false, eval (.Constant (.str msg) j p3) env)]) _ _ _
  refine spliced_cons (Constant_str (spliced_nil ⟨hu, ?_⟩))
  refine call_mw T (X₂.keeps k₃) (k₃ _ _ (k₂ _ _ hx₁)) hu (by show 1 ≤ sizeLine; decide) fun h₄ t1 k₄ hx₄ => ?_
  show _root_.PySem.wpAt _ _ _ (execs sts env) _ _ _
  refine wpAt_of_wpAny ?_
  have keep4 : ∀ b o, b ≠ x → hp0.get? b = some o → h₄.get? b = some o := fun b o hb e => k₄ b o hb (k₃ _ _ (k₂ _ _ (hk₁ _ _ e)))
  obtain ⟨oL, esL, epL, hoL, hrL⟩ := id hns
  have hoL4 : h₄.get? hp0.objs.size = some oL := k₄ _ _ hLx (k₃ _ _ (k₂ _ _ hoL))
  have S0 : ErrAt hp0 h₄ x C hp0.objs.size m [] none := ⟨keep4, Nat.le_of_lt (Heap.lt_size hoL4), ⟨oL, esL, epL, hoL4, hrL⟩, ⟨t1, hx₄⟩, rfl⟩
  refine err_stores T (h0 := hp0) X hnx hLx mself mpar hkf e2 (fun y hy => (kd y).trans (T.scl y hy)) hdb hsts (fun _ z => z) (acc := []) (s := ⟨h₄, g, d, _, os⟩) S0 (by rw [List.length_nil]; omega) fun h' tk' dd' S' => ?_
  exact hq h' tk' dd' hp0.objs.size m hLx (Nat.le_refl _) S'
theorem err_init (T : ErrC prog K C fI st q ps fs) {R : Result → Shared → Prop} {s : Shared} {x t0 : Addr} {vs : List V} {us : List Value} {mg : Str → Option Value} (X : K.In s.heap) (hlim : s.heap.NoLimit)
    (G : s.heap.Ns mainGlobals mg) (hsup : mg "super" = none) (B : ∃ mb, s.heap.Ns builtinsNs mb ∧ ∀ y : Str, y ≠ "__name__" → mb y = bootBuiltins y)
    (hx : s.heap.get? x = some (excO C t0)) (hnx : K.lookup x = none) (hroom : A.depth < recursionLimit) (hv : Vals vs us) (hlen : vs.length = ps.length) (hfs : fs.length ≤ 90) (hdb : ∀ y ∈ (("self" : Str) :: ps), (y == ("__debug__" : Str)) = false)
    (hq : ∀ h' tk dd L m, L ≠ x → s.heap.objs.size ≤ L → ErrAt s.heap h' x C L m (errF vs fs []) dd → R (.ok (.ret .none)) { s with heap := h', toks := tk }) :
    codeAny (model prog w) A (.call (.ref fI) ⟨.ref x :: us, []⟩) R s :=
  err_initA T X hlim G hsup B hx hnx hroom hv hlen hfs hdb (fun doc pm an cda cc ct => T.bd doc pm an cda cc ct (.ref x :: us) (by rw [List.length_cons, ← hlen]; exact congrArg (· + 1) hv.length.symm)) hq
end
section
open PySem PySem.Spec PyProof.Rows
variable {X : Cx} {C fI : Addr} {st : Stmt} {q : Str} {ps : List Str} {fs : List (Str × Sum Nat Str)}
/-- what the making of such an error leaves: its class, its own dict (new), the fields -/
def errQ (C : Addr) (fs : List (Str × Sum Nat Str)) (vs : List V) (H1 : Hp) (Q : XK) : Prop := match fs with
  | [] => Q (.ref C) none H1
  | p :: r => ∀ d, H1 d = none → Q (.ref C) (some d) (upd H1 d (.xd (errF vs (p :: r) [])))
def tErr (C : Addr) (n : Nat) (fs : List (Str × Sum Nat Str)) (ta : TA) : L2.St → Hp → XK → Prop := fun σ H Q => ta σ H fun vs H1 => vs.length = n ∧ errQ C fs vs H1 Q
theorem errF_nil {vs : List V} : ∀ {fs : List (Str × Sum Nat Str)} {acc : List (Str × V)}, errF vs fs acc = [] → fs = [] ∧ acc = []
  | [], acc, e => ⟨rfl, e⟩
  | p :: r, acc, e => by
    obtain ⟨_, h⟩ := errF_nil (fs := r) (acc := (p.1, fldV vs p.2) :: acc) e
    cases h
theorem err_made (T : ErrC X.prog X.K C fI st q ps fs) {pins : List (Addr × Obj)} {σ : L2.St} {H1 : Hp} {s1 : Shared} {Q : XK} {vs : List V} {us : List Value} {k : Nat} (hsup : X.mg "super" = none) (hr : Room k X.A) (hfs : fs.length ≤ 90)
    (hdb : ∀ y ∈ (("self" : Str) :: ps), (y == ("__debug__" : Str)) = false) (I1 : Inv X pins σ H1 s1) (r : Vals vs us) (hl : vs.length = ps.length) (hz : us.length ≤ sizeLine)
    (q1 : errQ C fs vs H1 Q) :
    wpAny (model X.prog X.w) X.A (call (.ref C) us) (MkP X pins σ Q) X.xe s1 := by
  obtain ⟨nm, qn, N, bs, bm, sn, sub, ab, col, dd0, k0, k1, k2, k3, k5, hC, hbm⟩ := T.cls
  have hlim := I1.nolimit
  have KX := I1.kIn
  have G := I1.mod.glob.keeps I1.bk
  have B : ∃ mb, s1.heap.Ns builtinsNs mb ∧ ∀ y : Str, y ≠ "__name__" → mb y = bootBuiltins y := by
    obtain ⟨mb, b1, b2⟩ := I1.mod.blt
    exact ⟨mb, b1.keeps I1.bk, b2⟩
  obtain ⟨hp, g, dr, tk, os⟩ := s1
  have kk : ∀ b o, hp.get? b = some o → ((hp.push (PySem.W.kdv_tup us)).push (PySem.HandSPX.excO C hp.objs.size)).get? b = some o := fun b o e => Heap.get?_push_of_some _ (Heap.get?_push_of_some _ e)
  have hget : ((hp.push (PySem.W.kdv_tup us)).push (PySem.HandSPX.excO C hp.objs.size)).get? (hp.objs.size + 1) = some (PySem.HandSPX.excO C hp.objs.size) := by heap_get
  have hnx : X.K.lookup (hp.objs.size + 1) = none := by
    cases e : X.K.lookup (hp.objs.size + 1) with
    | none => rfl
    | some o =>
      have z : hp.get? (hp.objs.size + 1) = some o := KX _ _ e
      exact absurd (Nat.lt_of_succ_lt (Heap.lt_size z)) (Nat.lt_irrefl _)
  refine wpAny_call (PySem.HandSPX.call_own F.excBase_ValueError (fun Y => PySem.HandSPX.refsVE_contains Y bm hbm) (KX _ _ hC) (PySem.W.looks_findIn KX T.iC) (fun self => PySem.W.bind_fn KX self T.tC) hz ?_)
  have hdp := hr.dp
  refine err_init T (vs := vs) (mg := X.mg) (s := ⟨(hp.push (PySem.W.kdv_tup us)).push (PySem.HandSPX.excO C hp.objs.size), g, dr, tk, os⟩) (KX.keeps kk) (hlim.keeps kk) (G.keeps kk) hsup (let ⟨mb, b1, b2⟩ := B; ⟨mb, b1.keeps kk, b2⟩) hget hnx ?_ r hl hfs hdb fun h' tk' dd L m hLx hLz S => ?_
  · show X.A.depth + 1 < recursionLimit
    omega
  obtain ⟨kp, sz, hn, ⟨t1, hx⟩, hd⟩ := S
  have e2 : ((hp.push (PySem.W.kdv_tup us)).push (PySem.HandSPX.excO C hp.objs.size)).objs.size = hp.objs.size + 2 := by simp [Heap.size_push]
  have old0 : ∀ b o, hp.get? b = some o → h'.get? b = some o := fun b o e => kp b o (Nat.ne_of_lt (Nat.lt_succ_of_lt (Heap.lt_size e))) (kk b o e)
  obtain ⟨G', g1, g2⟩ := restrict h' fun b => decide (b ≠ hp.objs.size + 1)
  have gk : ∀ b, b ≠ hp.objs.size + 1 → G'.get? b = h'.get? b := fun b hb => g1 b (decide_eq_true hb)
  have ge : G'.get? (hp.objs.size + 1) = none := g2 _ (by simp)
  have old : ∀ b o, hp.get? b = some o → G'.get? b = some o := fun b o e => (gk b (Nat.ne_of_lt (Nat.lt_succ_of_lt (Heap.lt_size e)))).trans (old0 b o e)
  have sub2 : ∀ b o, G'.get? b = some o → h'.get? b = some o := fun b o e => by
    by_cases hb : b = hp.objs.size + 1
    · rw [hb, ge] at e; cases e
    · rw [← gk b hb]; exact e
  refine ⟨rfl, ?_⟩
  show MkP X pins σ Q (.ref (hp.objs.size + 1)) ⟨h', g, dr, tk', os⟩
  cases dd with
  | none =>
    have hd : errF vs fs [] = [] := hd
    obtain ⟨rfl, _⟩ := errF_nil hd
    have J : Inv X pins σ H1 ⟨G', g, dr, tk', os⟩ := I1.kept (t' := tk') old
    exact ⟨hp.objs.size + 1, _, _, ⟨G', g, dr, tk', os⟩, H1, .ref C, none, rfl, J, sub2, ge, hx, ⟨rfl, rfl⟩, rfl, rfl, I1.hok.fresh (Nat.le_succ _), rfl, I1.bare, raises_own T.exC T.tyC, q1⟩
  | some dx =>
    obtain ⟨d0, d1, d2, d3, mA, hns, rel⟩ := hd
    rw [e2] at d1
    have hdx : hp.objs.size ≤ dx := Nat.le_trans (Nat.le_add_right _ 2) d1
    have nd : H1 dx = none := I1.hok.fresh hdx
    have ob : ObjOk X.prog X.w (upd H1 dx (.xd (errF vs fs []))) G' dx (.xd (errF vs fs [])) := ⟨mA, hns.at (fun o q => (gk dx d2).trans q), rel⟩
    have J : Inv X pins σ (upd H1 dx (.xd (errF vs fs []))) ⟨G', g, dr, tk', os⟩ := I1.laid (t' := tk') old hdx ob
    refine ⟨hp.objs.size + 1, _, _, ⟨G', g, dr, tk', os⟩, _, .ref C, some dx, rfl, J, sub2, ge, hx, ⟨rfl, rfl⟩, rfl, rfl, ?_, rfl, I1.bare, raises_own T.exC T.tyC, ?_⟩
    · rw [upd_ne (Ne.symm d2)]
      exact I1.hok.fresh (Nat.le_succ _)
    · cases fs with
      | nil =>
        exact absurd rfl d0
      | cons p r => exact q1 dx nd
/-- C(e, ..) -/
theorem pmk_err {x : Str} {e : Expr} {es : List Expr} {ta : TA} {p pos : Pos} {k : Nat} (T : ErrC X.prog X.K C fI st q ps fs) (hm : X.mg x = some (.ref C)) (hsup : X.mg "super" = none) (hr : Room k X.A) (ha : PA X (e :: es) ta) (hg : Gl X x := by rfl)
    (hfs : fs.length ≤ 90 := by decide) (hps : ps.length ≤ 90 := by decide) (hdb : ∀ y ∈ (("self" : Str) :: ps), (y == ("__debug__" : Str)) = false := by decide) (hd : (x == ("__debug__" : Str)) = false := by decide)
    (he : starEach (e :: es) X.env = (false, eval e X.env) :: starEach es X.env := by rfl) (hpl : (backTo pos (starEach es X.env)).any (·.1) = false := by rfl) :
    PMk X (.Call (.Name x p) (e :: es) [] pos) (tErr C ps.length fs ta) := by
  intro pins s σ H Q I h
  refine wpAny_Call_Name_kw (ld_glob I hg hm ?_ hd)
  refine PySem.W.callWith_K (h₀ := X.base) I.ok.mod.kin T.kC (thn (ha.run pos pins s σ H _ I h) fun us s1 hh => ?_) he hpl
  obtain ⟨vs, H1, I1, r1, hl, q1⟩ := hh
  refine ⟨I1.kIn, ?_⟩
  exact err_made T hsup hr hfs hdb I1 r1 hl (by rw [List.nil_append, ← r1.length, hl, sizeLine_eq]; omega) q1
/-- C() -/
theorem pmk_err0 {x : Str} {p pos : Pos} {k : Nat} (T : ErrC X.prog X.K C fI st q [] fs) (hm : X.mg x = some (.ref C)) (hsup : X.mg "super" = none) (hr : Room k X.A) (hg : Gl X x := by rfl)
    (hfs : fs.length ≤ 90 := by decide) (hd : (x == ("__debug__" : Str)) = false := by decide) :
    PMk X (.Call (.Name x p) [] [] pos) (tErr C 0 fs tNil) := by
  intro pins s σ H Q I h
  refine wpAny_Call_Name_kw (ld_glob I hg hm ?_ hd)
  refine PySem.W.callWith_K0 I.kIn T.kC ?_
  obtain ⟨_, q1⟩ := h
  exact err_made T (vs := []) (us := []) hsup hr hfs (by decide) I .nil rfl (Nat.zero_le _) q1
end
/-! ### several except clauses, with or without a name -/
section
open PySem PySem.Spec PyProof.Rows
abbrev Cls1 := Value × Option Nat × (Addr → Value → Option Addr → TS)
def endsAs (i : Nat) (D : Ends) : Ends := { nx := fun σ' H' => D.nx (σ'.set i none) H', rt := D.rt, bk := fun σ' H' => D.bk (σ'.set i none) H', ct := fun σ' H' => D.ct (σ'.set i none) H' }
def wCl (D : Ends) (on : Option Nat) (ts : Addr → Value → Option Addr → TS) (a : Addr) (cls : Value) (d : Option Addr) (σ : L2.St) (H : Hp) : Prop := match on with
  | none => ts a cls d D σ H
  | some i => ts a cls d (endsAs i D) (σ.set i (some (.ref a))) H
/-- what the clauses wish of an exception of the body, one after the other -/
def wManyA (K : PySem.W.Frag) (Wout : WX) (D : Ends) : List Cls1 → WX
  | [] => Wout
  | (c, on, ts) :: r => fun cls d σ H => ∃ b, PySem.W.exmOne K cls c = some b ∧ (b = true → ∀ a, H a = none → wCl D on ts a cls d σ H) ∧ (b = false → wManyA K Wout D r cls d σ H)
inductive HdsA (X : Cx) : List ExceptHandler → List Cls1 → Prop
  | nil : HdsA X [] []
  | cons {x : Str} {c : Value} {ts : Addr → Value → Option Addr → TS} {b₀ : Stmt} {suite : List Stmt} {np pos' : Pos} {hds : List ExceptHandler} {l : List Cls1} (hc : Names X x c)
      (hsu : ∀ (a : Addr) (oe : Obj) (cls : Value) (d : Option Addr) (pn : List (Addr × Obj)), Zc cls d oe → (∃ vs, oe.data = .fields vs) → PSs (X.suite a ((a, oe) :: pn)) (b₀ :: suite) (ts a cls d)) (r : HdsA X hds l) :
      HdsA X (.ExceptHandler (some (.Name x np)) none (b₀ :: suite) pos' :: hds) ((c, none, ts) :: l)
  | consA {x n : Str} {c : Value} {i : Nat} {ts : Addr → Value → Option Addr → TS} {b₀ : Stmt} {suite : List Stmt} {np pos' : Pos} {hds : List ExceptHandler} {l : List Cls1} (hc : Names X x c) (hi : X.N[i]? = some n) (hln : X.env.kindOf n = some .local)
      (hsu : ∀ (a : Addr) (oe : Obj) (cls : Value) (d : Option Addr) (pn : List (Addr × Obj)), Zc cls d oe → (∃ vs, oe.data = .fields vs) → PSs (X.suite a ((a, oe) :: pn)) (b₀ :: suite) (ts a cls d)) (r : HdsA X hds l) :
      HdsA X (.ExceptHandler (some (.Name x np)) (some n) (b₀ :: suite) pos' :: hds) ((c, some i, ts) :: l)
variable {X : Cx} {body : List Stmt} {h₀ : ExceptHandler} {hds : List ExceptHandler} {l : List Cls1} {pos : Pos} {tb : WX → TS} {Wout : WX}
theorem ps_tryA (hs : X.stack = X.env :: X.outer) (hf : X.env.frame = some X.env.locals) (hN : X.N.Nodup) (tk : Takes X Wout)
    (hb : ∀ (W : WX) (pn : List (Addr × Obj)) (xe : Value → Shared → Prop), Takes (X.tr pn xe) W → PassesOwn (model X.prog X.w) X.A X.env xe → PSs (X.tr pn xe) body (tb W))
    (hh : HdsA X (h₀ :: hds) l) : PS X (.Try body (h₀ :: hds) [] [] pos) (fun D σ H => tb (wManyA X.K Wout D l) D σ H) := by
  refine ⟨fun pins s σ H D I h => ?_⟩
  have ok := I.ok
  have hfr : X.A.frames = some (X.env :: X.outer) := by rw [ok.frames, hs]
  refine wpAny_Try_except ?_
  refine wpAny_mono ((hb (wManyA X.K Wout D l) (X.pn ++ pins) (fun e s₁ => wpAny (model X.prog X.w) X.A (noteFrame e X.env) (fun _ s₂ => wpAny (model X.prog X.w) X.A (setFlight e none) (fun _ s₃ =>
    wpAny (model X.prog X.w) X.A (handleBy e X.env (h₀ :: hds)) (SP X pins D) X.xe s₃) X.xe s₂) X.xe s₁) (fun u s' xx => ?_) PassesOwn.looking).run [] s σ H D (I.toTry _) h) (fun f s1 hsp => ?_) (fun e s1 he => he)
  · -- the catch
    obtain ⟨a, B, sI, pins', σ', H', cls, d, rfl, J', nb, up, sky, na, os, ag, w⟩ := xx
    have J : Inv X pins σ' H' sI := J'.ofTry ok
    have sky' : Sky B (X.env :: X.outer) a (Zc cls d) X.env.locals s'.heap := by rw [← hs]; exact sky
    show wpAny (model X.prog X.w) X.A (noteFrame (.ref a) X.env) _ _ _
    refine Sky.land Zc.steady hfr hf sky' fun h3 fl3 up3 => ?_
    have J3 : Inv X pins σ' H' { s' with heap := h3 } := J.landed nb fl3.1 (up.trans up3) os ag
    obtain ⟨oe3, vs3, he3, hz3, hd3⟩ := fl3.there
    have notFr : ∀ {h : Heap} {o : Obj} {vs : Array Value}, h.FunFrames B (X.env :: X.outer) → h.get? a = some o → o.data = .fields vs → a ∉ frs (X.env :: X.outer) := fun {h o vs} ff e dd hm => by
      obtain ⟨_, o', e', hnf⟩ := ff.mem hm
      rw [e] at e'; cases e'
      exact hnf _ dd
    have nfr := notFr fl3.2.2.1 he3 hd3
    have nL : a ≠ X.env.locals := fun z => nfr (List.mem_filterMap.mpr ⟨X.env, List.mem_cons_self, by rw [hf, z]⟩)
    have nF : a ∉ X.fs := fun hm => by
      obtain ⟨e, he, q⟩ := List.mem_filterMap.mp hm
      exact nfr (List.mem_filterMap.mpr ⟨e, List.mem_cons_of_mem _ he, q⟩)
    have S3 := J3.suite he3 hd3 na nL nF
    have tst : ∀ {x : Str} {c : Value} {np : Pos}, Names X x c → ∀ {Q : Value → Shared → Prop} {E : Value → Shared → Prop}, Q c { s' with heap := h3 } → wpAny (model X.prog X.w) (X.A.mark (some (.ref a))) (eval (.Name x np) X.env) Q E { s' with heap := h3 } := fun {x c np} hc {Q E} q => by
      obtain ⟨hg, hdbg, hm | ⟨hm, hv, hnn⟩⟩ := hc
      · exact ld_glob (X := X.suite a ((a, oe3) :: (X.pn ++ pins))) S3 hg hm q hdbg
      · exact ld_blt (X := X.suite a ((a, oe3) :: (X.pn ++ pins))) S3 hg hm hv q hnn hdbg
    have LT : PySem.W.Looks (model X.prog X.w) h3 (typeOf (.ref a)) cls := fun A Q E s k q => wpAny_typeOf_ref (k _ _ he3) (by rw [hz3.1]; exact q)
    have go : ∀ {hds' : List ExceptHandler} {l' : List Cls1}, HdsA X hds' l' → wManyA X.K Wout D l' cls d σ' H' →
        wpAny (model X.prog X.w) X.A (handleBy (.ref a) X.env hds') (SP X pins D) X.xe { s' with heap := h3 } := by
      intro hds' l' hk
      induction hk with
      | nil =>
        intro w
        refine wpAny_handleBy_nil ?_
        obtain ⟨k1, k2, k3, oe, vs, T, oT, ts', he, hz, hd, h1, hr⟩ := id fl3
        unfold PySem.passOn
        refine wpAny_bind (wpAny_field he hd h1 ?_)
        rw [if_neg (show ¬ ((Value.ref T == Value.none) = true) from by simp)]
        have fin : wpAny (model X.prog X.w) X.A (setFlight (.ref a) X.env.frame) (fun _ s4 => wpAny (model X.prog X.w) X.A (throw (.ref a) : Sem Flow) (SP X pins D) X.xe s4) X.xe { s' with heap := h3 } := by
          rw [hf]
          refine HandSPX.setFlight_upZ fl3 fun h4 hh4 up4 => wpAny_throw (tk _ _ ?_)
          exact ⟨a, B, sI, pins, σ', H', cls, d, rfl, J, nb, (up.trans up3).trans up4, .inr (.inr (by rw [hs]; exact hh4)), na, os, ag, w⟩
        first
          | exact wpAny_bind (wpAny_pure (wpAny_bind fin))
          | exact wpAny_bind fin
      | @cons x c ts b₀ suite np pos' hds2 l2 hc hsu r ih =>
        intro w
        obtain ⟨b, hb1, hyes, hno⟩ := w
        refine wpAny_handleBy_cons (codeAny_handlers_test ?_) (by intro q; cases q)
        have LM := PySem.W.exm_one (M := model X.prog X.w) (J3.kIn) LT hb1
        refine tst hc (LM.here ?_)
        cases b with
        | true =>
          refine codeAny_handlers_suite ?_
          refine HandSPX.lands_againZ fl3 fun h4 fl4 up4 => ?_
          have J4 : Inv X pins σ' H' { s' with heap := h4 } := J.landed nb fl4.1 ((up.trans up3).trans up4) os ag
          obtain ⟨oe4, vs4, he4, hz4, hd4⟩ := fl4.there
          have S4 := J4.suite he4 hd4 na nL nF
          refine wpAny_mono ((hsu a oe4 cls d (X.pn ++ pins) hz4 ⟨_, hd4⟩).run [] _ _ H' _ S4 (hyes rfl a na)) (fun f s6 hsp => ?_) (fun _ _ z => False.elim z)
          cases f with
          | next =>
            obtain ⟨σ6, H6, S6, q6⟩ := hsp
            exact ⟨_, _, S6.unsuite ok, q6⟩
          | brk =>
            obtain ⟨σ6, H6, S6, q6⟩ := hsp
            exact ⟨_, _, S6.unsuite ok, q6⟩
          | cont =>
            obtain ⟨σ6, H6, S6, q6⟩ := hsp
            exact ⟨_, _, S6.unsuite ok, q6⟩
          | ret u =>
            obtain ⟨v6, σ6, H6, S6, r6, q6⟩ := hsp
            exact ⟨_, _, _, S6.unsuite ok, r6, q6⟩
        | false =>
          show wpAny _ X.A (handleBy (.ref a) X.env hds2) _ _ _
          exact ih (hno rfl)
      | @consA x n c i ts b₀ suite np pos' hds2 l2 hc hi hln hsu r ih =>
        intro w
        obtain ⟨b, hb1, hyes, hno⟩ := w
        have hloc : Loc X.env.scope n := .inl hln
        refine wpAny_handleBy_cons (codeAny_handlers_test ?_) (by intro q; cases q)
        have LM := PySem.W.exm_one (M := model X.prog X.w) (J3.kIn) LT hb1
        refine tst hc (LM.here ?_)
        cases b with
        | true =>
          refine codeAny_handlers_suite_as ?_
          refine HandSPX.lands_againZ fl3 fun h4 fl4 up4 => ?_
          have J4 : Inv X pins σ' H' { s' with heap := h4 } := J.landed nb fl4.1 ((up.trans up3).trans up4) os ag
          obtain ⟨oe4, vs4, he4, hz4, hd4⟩ := fl4.there
          have S4 := J4.suite he4 hd4 na nL nF
          refine store_ok (X := X.suite a ((a, oe4) :: (X.pn ++ pins))) (v := .ref a) S4 hN hi hloc rfl (fun s5 S5 => ?_) (.inr hln)
          refine wpAny_mono ((hsu a oe4 cls d (X.pn ++ pins) hz4 ⟨_, hd4⟩).run [] s5 _ H' _ S5 (hyes rfl a na)) (fun f s6 hsp => ?_) (fun _ _ z => False.elim z)
          have end_ : ∀ {σ6 : L2.St} {H6 : Hp} {Q : Shared → Prop}, Inv (X.suite a ((a, oe4) :: (X.pn ++ pins))) [] σ6 H6 s6 → (∀ s7, Inv X pins (σ6.set i none) H6 s7 → Q s7) →
              wpAny (model X.prog X.w) X.A (do bindName X.env n .none; unbindBehindTheSuite X.env n pos') (fun _ s7 => Q s7) X.xe s6 := fun {σ6 H6 Q} S6 hq => gone_ok (S6.unsuite ok) hN hi hln hq
          cases f with
          | next =>
            obtain ⟨σ6, H6, S6, q6⟩ := hsp
            exact end_ S6 fun s7 J7 => ⟨_, _, J7, q6⟩
          | brk =>
            obtain ⟨σ6, H6, S6, q6⟩ := hsp
            exact end_ S6 fun s7 J7 => ⟨_, _, J7, q6⟩
          | cont =>
            obtain ⟨σ6, H6, S6, q6⟩ := hsp
            exact end_ S6 fun s7 J7 => ⟨_, _, J7, q6⟩
          | ret u =>
            obtain ⟨v6, σ6, H6, S6, r6, q6⟩ := hsp
            exact end_ S6 fun s7 J7 => ⟨_, _, _, J7, r6, q6⟩
        | false =>
          show wpAny _ X.A (handleBy (.ref a) X.env hds2) _ _ _
          exact ih (hno rfl)
    exact go hh w
  · cases f with
    | next =>
      obtain ⟨σ', H', J', q⟩ := hsp
      exact wpAny_execs_nil ⟨σ', H', J'.ofTry ok, q⟩
    | brk =>
      obtain ⟨σ', H', J', q⟩ := hsp
      exact ⟨σ', H', J'.ofTry ok, q⟩
    | cont =>
      obtain ⟨σ', H', J', q⟩ := hsp
      exact ⟨σ', H', J'.ofTry ok, q⟩
    | ret u =>
      obtain ⟨v, σ', H', J', r, q⟩ := hsp
      exact ⟨v, σ', H', J'.ofTry ok, r, q⟩
/-! ### o.m(e, ..) with a wish by the slots, defaults, keywords -/
variable {CX : CXT} {k : Nat} {f C : Addr} {fd : FuncData} {ps ks : List Str} {sp : Sp} {dvs : List V} {ds : List Value} {E : L2.St → XK} {x m : Str} {p apos : Pos} {e o : Expr} {es : List Expr} {kws : List Keyword} {ta : TE} {t tk : TA}
def tMethS (C : Addr) (m : Str) (sp : Sp) (dvs : List V) (E : L2.St → XK) (to : TE) (ta : TA) : TE := fun σ H Q => to σ H fun x H1 => ∃ a dx fs, x = .ref a ∧ H1 a = some (.ins C dx fs) ∧ fs.lookup m = none ∧ ta σ H1 fun vs H2 => sp (.ref a :: (vs ++ dvs)) H2 Q (E σ)
theorem pe_methSD {pl : Sem Bool} (he : PE X o ta) (c : Cls X.K C) (hm : Meth X.K C m f) (F : FnOk X.prog X.w X.K X.mg X.base CX k f fd ps sp) (hr : Room k X.A) (hb : Binds X.K fd ps ds) (hd : Vals dvs ds) (hx : ∀ σ, PassesAt CX X σ (E σ)) (ha : PA X (e :: es) t)
    (hst : starEach (e :: es) X.env = (false, eval e X.env) :: starEach es X.env := by rfl) (hpl : (backTo pos (starEach es X.env)).any (·.1) = false := by rfl)
    (ht : eval (.Call (.Attribute o m apos) (e :: es) [] pos) X.env = (do
      let ov ← eval o X.env
      standAt apos.atName
      let (f, first) ← holding [ov] (getMethod ov m pl)
      callWith pos f first (backTo pos (starEach (e :: es) X.env)) (backToKw pos (keywordEach [] X.env))) := by rfl) :
    PE X (.Call (.Attribute o m apos) (e :: es) [] pos) (tMethS C m sp dvs E ta t) := by
  refine ⟨fun pins s σ H Q I h => ?_⟩
  refine PySem.W.methodCall_KW (pl := pl) (thn (he.run pins s σ H _ I h) fun u s1 ⟨x, H1, I1, rx, a, dx, fs, ex, ea, l, q⟩ => ?_) ht
  subst ex
  obtain rfl : u = Value.ref a := rx
  refine getmeth_ok I1 ea c hm l ?_
  refine PySem.W.callWith_K (first := [.ref a]) (h₀ := X.base) I.ok.mod.kin hm.kp (thn (ha.run pos pins s1 σ H1 _ I1 q) fun us s2 ⟨vs, H2, I2, r, q2⟩ => ⟨I2.kIn, ?_⟩) hst hpl
  exact run_fnSD (us := .ref a :: us) (vs := .ref a :: vs) F hr hb hd (hx σ) I2 (.cons rfl r) q2
theorem pe_methSD0 {pl : Sem Bool} (he : PE X o ta) (c : Cls X.K C) (hm : Meth X.K C m f) (F : FnOk X.prog X.w X.K X.mg X.base CX k f fd ps sp) (hr : Room k X.A) (hb : Binds X.K fd ps ds) (hd : Vals dvs ds) (hx : ∀ σ, PassesAt CX X σ (E σ))
    (ht : eval (.Call (.Attribute o m apos) [] [] pos) X.env = (do
      let ov ← eval o X.env
      standAt apos.atName
      let (f, first) ← holding [ov] (getMethod ov m pl)
      callWith pos f first (backTo pos (starEach [] X.env)) (backToKw pos (keywordEach [] X.env))) := by rfl) :
    PE X (.Call (.Attribute o m apos) [] [] pos) (tMethS C m sp dvs E ta tNil) := by
  refine ⟨fun pins s σ H Q I h => ?_⟩
  refine PySem.W.methodCall_KW (pl := pl) (thn (he.run pins s σ H _ I h) fun u s1 ⟨x, H1, I1, rx, a, dx, fs, ex, ea, l, q⟩ => ?_) ht
  subst ex
  obtain rfl : u = Value.ref a := rx
  refine getmeth_ok I1 ea c hm l ?_
  exact PySem.W.callWith_K0 (first := [.ref a]) I1.kIn hm.kp (run_fnSD (us := [.ref a]) (vs := [.ref a]) F hr hb hd (hx σ) I1 (.cons rfl .nil) q)
end
/-! ### defs under which repr is asked: no guard is up -/
section
open PySem PySem.Spec PyProof.Rows
structure FnG (P : Program) (w : World) (K : PySem.W.Frag) (mg : Str → Option Value) (base : Heap) (CX : CXT) (k : Nat) (f : Addr) (fd : FuncData) (ps : List Str) (sp : Sp) : Prop where
  len : ∀ vs H Q E, sp vs H Q E → vs.length = ps.length
  run : ∀ (A : Around) (outer : List Env) (s : Shared) (H : Hp) (args : Args) (us : List Value) (vs : List V) (Q : VK) (E : XK), Room k A → A.guards = some [] → Env0 P w K mg base A outer s H → BindsTo s fd args (ps.zip us) → Vals vs us → sp vs H Q E →
    codeAny (model P w) A (.call (.ref f) args) (CR CX outer P w H s Q E) s
theorem FnG.of {P : Program} {w : World} {K : PySem.W.Frag} {mg : Str → Option Value} {base : Heap} {CX : CXT} {k : Nat} {f : Addr} {fd : FuncData} {ps : List Str} {sp : Sp} (F : FnOk P w K mg base CX k f fd ps sp) : FnG P w K mg base CX k f fd ps sp :=
  ⟨F.len, fun A outer s H args us vs Q E hr _ => F.run A outer s H args us vs Q E hr⟩
theorem FnG.mono {P : Program} {w : World} {K : PySem.W.Frag} {mg : Str → Option Value} {base : Heap} {CX : CXT} {j k : Nat} {f : Addr} {fd : FuncData} {ps : List Str} {sp : Sp} (F : FnG P w K mg base CX j f fd ps sp) (h : j ≤ k) : FnG P w K mg base CX k f fd ps sp :=
  ⟨F.len, fun A outer s H args us vs Q E hr => F.run A outer s H args us vs Q E (hr.mono h)⟩
theorem fn_ofG {CX : CXT} {P : Program} {w : World} {K : PySem.W.Frag} {mg : Str → Option Value} {base : Heap} {k : Nat} {f : Addr} {name qual : Str} {params : Arguments} {body : List Stmt} {scope : Scope} {dV kV doc pm cdv ct oc : Value} {an od : Option Addr}
    {osl : Array (Option Value)} {N ps : List Str} {sp : Sp} (lk : K.lookup f = some ⟨oc, od, .func (PySem.W.fnOf name qual params body scope dV kV doc pm an cdv ct), osl⟩) (hcd : PySem.W.codeIn K cdv qual = true) (S : FnScope N ps scope)
    (len : ∀ vs H Q E, sp vs H Q E → vs.length = ps.length)
    (hbody : ∀ (A : Around) (outer : List Env) (s : Shared) (H : Hp) (vs : List V) (Q : VK) (E : XK), Room k (A.deeper (envOfC qual scope s.heap.objs.size f cdv)) → A.guards = some [] → sp vs H Q E →
      ∃ t, PSs (cxOf CX P w K mg base N qual scope f cdv A outer s H E) body t ∧ t { nx := fun _ H' => Q .non H', rt := Q } (start N vs) H) :
    FnG P w K mg base CX (k + 1) f (PySem.W.fnOf name qual params body scope dV kV doc pm an cdv ct) ps sp := by
  refine ⟨len, fun A outer s H args us vs Q E hr hg e0 hb r hsp => ?_⟩
  have hl := len _ _ _ _ hsp
  have KX : K.In s.heap := e0.mod.kin.keeps fun b o e => (e0.bs b o e).1
  have lim : s.heap.NoLimit := e0.mod.nolimit.keeps fun b o e => (e0.bs b o e).1
  have hkind : ∀ y ∈ ps.zip us, scope.names.lookup y.1 = some .local ∨ (scope.names.lookup y.1 = some .cell ∧ ((cellsFrom (s.heap.objs.size + 1) scope.names []).lookup y.1).isSome = true) := fun ⟨n, v⟩ hy => by
    rcases S.par n (List.of_mem_zip hy).1 with q | q
    · exact .inl q
    · exact .inr ⟨q, PySem.W.cellsFrom_some _ _ _ (.inl q)⟩
  refine codeAny_call_function hr.depth (KX _ _ lk) rfl S.co S.gen rfl (PySem.W.codeRec_of KX hcd) (hb _ _ _ _ ?_)
  refine wpAny_newFunctionEnv_cells S.kind hkind fun env he s1 x => ?_
  subst he
  refine ⟨lim.keeps x.toInCall.keep, codeAny_func ?_⟩
  obtain ⟨t, ht, hq⟩ := hbody A outer s H vs Q E (hr.deeper _) hg hsp
  have I : Inv (cxOf CX P w K mg base N qual scope f cdv A outer s H E) [] (start N vs) H s1 := inv_start S hr.hd e0 hl r x
  refine wpAny_mono (ht.run [] s1 (start N vs) H _ I hq) (fun fl s' hs => ?_) fun e s' hs => hs
  have fin : ∀ {σ' : L2.St} {H' : Hp} {v : V} {u : Value}, Inv (cxOf CX P w K mg base N qual scope f cdv A outer s H E) [] σ' H' s' → RelV v u → Q v H' → CE outer P w H s Q u s' :=
    fun {σ' H' v u} J rv q => ⟨v, H', J.os, J.bare, J.base, J.hok, rv, q⟩
  cases fl with
  | ret u =>
    obtain ⟨v, σ', H', J, rv, q⟩ := hs
    exact fin J rv q
  | next =>
    obtain ⟨σ', H', J, q⟩ := hs
    exact fin (v := V.non) (u := Value.none) J rfl q
  | brk =>
    obtain ⟨_, _, _, q⟩ := hs
    exact False.elim q
  | cont =>
    obtain ⟨_, _, _, q⟩ := hs
    exact False.elim q
theorem okG {P : Program} {w : World} {K : PySem.W.Frag} {mg : Str → Option Value} {base : Heap} {x qual : Str} {st : Stmt} {f : Addr} {fd : FuncData} {N ps : List Str} {k : Nat} {sp : Sp} (F : L2.Fun K x qual st f fd) (S : FnScope N ps (defScope st)) (len : ∀ vs H Q E, sp vs H Q E → vs.length = ps.length)
    (hbody : ∀ (cdv : Value) (A : Around) (outer : List Env) (s : Shared) (H : Hp) (vs : List V) (Q : VK) (E : XK), Room k (A.deeper (envOfC qual (defScope st) s.heap.objs.size f cdv)) → A.guards = some [] → sp vs H Q E →
      ∃ t, PSs (cxOf CX0 P w K mg base N qual (defScope st) f cdv A outer s H E).nox (defBody st) t ∧ t { nx := fun _ H' => Q .non H', rt := Q } (start N vs) H) : FnG P w K mg base CX0 (k + 1) f fd ps sp := by
  obtain ⟨oc, od, kV, doc, pm, an, cdv, ct, osl, rfl, lk, hcd⟩ := F.ex
  refine fn_ofG lk hcd S len fun A outer s H vs Q E hr hg hsp => ?_
  obtain ⟨t, h, q⟩ := hbody cdv A outer s H vs Q E hr hg hsp
  exact ⟨t, h.nox, q⟩
theorem okGX {P : Program} {w : World} {K : PySem.W.Frag} {mg : Str → Option Value} {base : Heap} {x qual : Str} {st : Stmt} {f : Addr} {fd : FuncData} {N ps : List Str} {k : Nat} {sp : Sp} (F : L2.Fun K x qual st f fd) (S : FnScope N ps (defScope st)) (len : ∀ vs H Q E, sp vs H Q E → vs.length = ps.length)
    (hbody : ∀ (cdv : Value) (A : Around) (outer : List Env) (s : Shared) (H : Hp) (vs : List V) (Q : VK) (E : XK), Room k (A.deeper (envOfC qual (defScope st) s.heap.objs.size f cdv)) → A.guards = some [] → sp vs H Q E →
      ∃ t, PSs (cxOf (L2.CX P w) P w K mg base N qual (defScope st) f cdv A outer s H E) (defBody st) t ∧ t { nx := fun _ H' => Q .non H', rt := Q } (start N vs) H) : FnG P w K mg base (L2.CX P w) (k + 1) f fd ps sp := by
  obtain ⟨oc, od, kV, doc, pm, an, cdv, ct, osl, rfl, lk, hcd⟩ := F.ex
  exact fn_ofG lk hcd S len fun A outer s H vs Q E hr hg hsp => hbody cdv A outer s H vs Q E hr hg hsp
section
variable {X : Cx} {CX : CXT} {k : Nat} {f C : Addr} {fd : FuncData} {ps : List Str} {sp : Sp} {dvs : List V} {ds : List Value} {E : XK} {x m : Str} {p pos apos : Pos} {e o : Expr} {es : List Expr} {ta : TE} {t : TA}
theorem run_fnG {pins : List (Addr × Obj)} {σ : L2.St} {H : Hp} {s : Shared} {Q : VK} {us : List Value} {vs : List V} (F : FnG X.prog X.w X.K X.mg X.base CX k f fd ps sp) (hr : Room k X.A) (hgd : X.A.guards = some []) (hb : Binds X.K fd ps ds) (hd : Vals dvs ds) (hx : Passes CX X E)
    (I : Inv X pins σ H s) (r : Vals vs us) (h : sp (vs ++ dvs) H Q E) : wpAny (model X.prog X.w) X.A (call (.ref f) us) (EP X pins σ Q) X.xe s := by
  have r2 : Vals (vs ++ dvs) (us ++ ds) := r.append hd
  have hl : (us ++ ds).length = ps.length := by rw [← r2.length]; exact F.len _ _ _ _ h
  refine wpAny_call (codeAny_mono (F.run X.A X.stack s H ⟨us, []⟩ (us ++ ds) (vs ++ dvs) Q E hr hgd I.env0 (hb s us I.kIn hl) r2 h) fun r s' hq => ?_)
  cases r with
  | error e => exact hx pins σ H s e s' I hq
  | ok fl =>
    cases fl with
    | ret u => exact I.after hq
    | next => exact False.elim hq
    | brk => exact False.elim hq
    | cont => exact False.elim hq
theorem pe_callG (F : FnG X.prog X.w X.K X.mg X.base CX k f fd ps sp) (hr : Room k X.A) (hgd : X.A.guards = some []) (hg : Gl X x) (hm : X.mg x = some (.ref f)) (hk : PySem.W.keepIn X.K (.ref f) = true) (hb : Binds X.K fd ps ds) (hd : Vals dvs ds) (hx : Passes CX X E)
    (ha : PA X (e :: es) t) (hdb : (x == ("__debug__" : Str)) = false := by decide) (he : starEach (e :: es) X.env = (false, eval e X.env) :: starEach es X.env := by rfl) (hpl : (backTo pos (starEach es X.env)).any (·.1) = false := by rfl) :
    PE X (.Call (.Name x p) (e :: es) [] pos) (tCall sp dvs E t) := by
  refine ⟨fun pins s σ H Q I h => ?_⟩
  refine wpAny_Call_Name_kw (ld_glob I hg hm ?_ hdb)
  refine PySem.W.callWith_K (h₀ := X.base) I.ok.mod.kin hk (thn (ha.run pos pins s σ H _ I h) fun us s1 ⟨vs, H1, I1, r, q⟩ => ⟨I1.kIn, ?_⟩) he hpl
  exact run_fnG F hr hgd hb hd hx I1 r q
/-- repr of data -/
theorem call_reprD (hgd : X.A.guards = some []) (hu : X.A.units + 64 < cLine) : CallR X (.builtin "repr") (fun xs H Q => ∃ (x : V) (dt : PyData), xs = [x] ∧ Dp X.K H x dt ∧ dt.showable = true ∧ dt.hasDict = false ∧ dt.depth ≤ 60 ∧ dt.shown.length ≤ sizeLine ∧ Q (.str dt.shown) H) := by
  intro pins s σ H xs us Q I r h
  obtain ⟨x, dt, rfl, hD, h1, h2, h3, h4, q⟩ := h
  obtain ⟨u, rfl, ru⟩ := vals1 r
  obtain ⟨as, hr⟩ := Dp.reads I dt x u hD ru
  cases hD with
  | non =>
    cases (show u = Value.none from ru)
    exact PySem.P.repr_of_none ⟨.str _, H, I.tok _, ⟨_, rfl⟩, q⟩
  | bl b =>
    cases (show u = Value.bool b from ru)
    exact PySem.P.repr_of_bool ⟨.str _, H, I.tok _, ⟨_, rfl⟩, q⟩
  | int i =>
    obtain ⟨t, rfl⟩ := ru
    exact PySem.P.repr_of_int (of_decide_eq_true h1) ⟨.str _, H, I.tok _, ⟨_, rfl⟩, q⟩
  | str z =>
    obtain ⟨t, rfl⟩ := ru
    exact PySem.P.repr_of_str ⟨.str _, H, I.tok _, ⟨_, rfl⟩, q⟩ h4
  | lst hl ha =>
    cases ru
    refine repr_of_reads' hr h1 (fun z => by rw [h2] at z; cases z) hgd (by omega) (fun _ _ e => e) (fun h' u tk hk => ?_) h4
    exact ⟨.str _, H, (I.kept (t' := tk) hk), ⟨_, rfl⟩, q⟩
  | tup hl ha =>
    cases ru
    refine repr_of_reads' hr h1 (fun z => by rw [h2] at z; cases z) hgd (by omega) (fun _ _ e => e) (fun h' u tk hk => ?_) h4
    exact ⟨.str _, H, (I.kept (t' := tk) hk), ⟨_, rfl⟩, q⟩
end
end
/-! ### the law is called: no guard is up -/
section
open PySem PySem.Spec PyProof.Rows L2
theorem law_callG {P : Program} {w : World} {K : PySem.W.Frag} {mg mb : Str → Option Value} {CX : CXT} {k : Nat} {fa a : Addr} {fd : FuncData} {x : Str} {sp : Sp} {s₁ : Shared} {vs : List Value} {ns : List Int}
    (KX : K.In s₁.heap) (hns : s₁.heap.Ns mainGlobals mg) (hb : s₁.heap.Ns builtinsNs mb) (hbb : ∀ x : Str, x ≠ "__name__" → mb x = bootBuiltins x) (hlim : s₁.heap.NoLimit) (hg : s₁.gens = #[])
    (ha : s₁.heap.get? a = some { cls := .type "list", data := .seq vs.toArray }) (hi : IntsAre vs ns) (hl : ns.length ≤ sizeLine) (hr : Room k callerA)
    (F : ∀ base : Heap, K.In base → base.Ns mainGlobals mg → FnG P w K mg base CX k fa fd [x] sp) (hbind : ∀ (s : Shared) (u : Value), BindsTo s fd ⟨[u], []⟩ [(x, u)])
    (hsp : ∀ H : Hp, Only H → SqL K H a (ns.map V.int) → sp [.ref a] H (fun v _ => v = .bl true) fun _ _ _ => False)
    (hCX : ∀ H e s', CX [] H s₁ (fun _ _ _ => False) e s' → False) :
    codeAny (model P w) callerA (.call (.ref fa) ⟨[.ref a], []⟩) (fun r s' => r = .ok (.ret (.bool true)) ∧ OldK s₁.heap s'.heap ∧ s'.os = s₁.os ∧ AllBare s'.gens) s₁ := by
  have rv := vals_ints hi
  have lenV := hi.length
  -- from an abstract heap in which nothing but the script may be tracked
  have core : ∀ H : Hp, Only H → SqL K H a (ns.map V.int) → HOk P w H s₁.heap → (∀ b, H b ≠ none → b = a) → (H a ≠ none → K.lookup a = none) →
      codeAny (model P w) callerA (.call (.ref fa) ⟨[.ref a], []⟩) (fun r s' => r = .ok (.ret (.bool true)) ∧ OldK s₁.heap s'.heap ∧ s'.os = s₁.os ∧ AllBare s'.gens) s₁ := by
    intro H hO hS hok hA hK
    have base_of : ∀ {b : Addr} {o : Obj}, s₁.heap.get? b = some o → H b = none → (hidT s₁.heap H).get? b = some o := fun e n => hidT_get e n
    have noA : ∀ {b : Addr} {o : Obj} {es : Array DictEntry} {ep : Nat}, s₁.heap.get? b = some o → o.data = .dict es ep → H b = none := fun {b o es ep} e d => by
      cases q : H b with
      | none => rfl
      | some u =>
        have e' : b = a := hA b (by rw [q]; simp)
        subst e'
        rw [ha] at e; cases e
        have d' : Data.seq vs.toArray _ = Data.dict es ep := d
        cases d'
    have nsK : ∀ {b : Addr} {m : Str → Option Value}, s₁.heap.Ns b m → (hidT s₁.heap H).Ns b m := fun {b m} ⟨o, es, ep, e, d, r⟩ => ⟨o, es, ep, base_of e (noA e d), d, r⟩
    have hKb : K.In (hidT s₁.heap H) := fun b o e => base_of (KX b o e) (by
      cases q : H b with
      | none => rfl
      | some u =>
        have e' : b = a := hA b (by rw [q]; simp)
        subst e'
        rw [hK (by rw [q]; simp)] at e; cases e)
    have hM : Mod K mg (hidT s₁.heap H) := ⟨hKb, nsK hns, ⟨mb, nsK hb, hbb⟩, let ⟨mc, h1, h2⟩ := hlim; ⟨mc, nsK h1, h2⟩⟩
    have e0 : Env0 P w K mg (hidT s₁.heap H) callerA [] s₁ H := ⟨rfl, hM, fun b o e => of_hidT e, Nat.le_of_eq (hidT_size _ _), trivial, fun b hb => absurd (show b ∈ ([] : List Addr) from hb) (by simp), hok, .of_eq hg⟩
    refine codeAny_mono ((F _ hKb (nsK hns)).run callerA [] s₁ H ⟨[.ref a], []⟩ [.ref a] [.ref a] _ _ hr rfl e0 (hbind s₁ (.ref a)) (.cons rfl .nil) (hsp H hO hS)) fun r s' h => ?_
    cases r with
    | error e => exact (hCX H e s' h).elim
    | ok fl =>
      cases fl with
      | next => exact False.elim h
      | brk => exact False.elim h
      | cont => exact False.elim h
      | ret u =>
        obtain ⟨v, H', os, bare, un, hok', r', q⟩ := h
        have q' : v = .bl true := q
        subst q'
        obtain rfl : u = Value.bool true := r'
        refine ⟨rfl, OldK.of_keep fun b o e => ?_, os, bare⟩
        cases q : H b with
        | none => exact un.keep b o e q (by intro z; exact absurd (show b ∈ ([] : List Addr) from z) (by simp)) (by simp)
        | some u =>
          rcases hO b with z | ⟨ob, xs, z⟩
          · rw [q] at z; cases z
          · have z2 := un.frzs b ob _ z
            obtain ⟨e1, _⟩ := hok b _ z
            obtain ⟨e2, _⟩ := hok' b _ z2
            rw [e] at e1; cases e1
            exact e2
  cases hk : K.lookup a with
  | some o =>
    -- the script is one of the module's own objects
    have e := KX a o hk
    rw [ha] at e
    cases e
    refine core (fun _ => none) (fun _ => .inl rfl) (.inr ⟨_, vs.toArray, _, hk, rfl, rfl, rfl, by rw [List.size_toArray, lenV]; exact hl, by simpa using rv⟩) (fun b u z => by have z' : (none : Option HO) = some u := z; cases z') (fun b z => absurd rfl z) fun z => absurd rfl z
  | none =>
    refine core (fun b => if b = a then some (.frz { cls := .type "list", data := .seq vs.toArray } (.lst (ns.map V.int))) else none) (fun b => ?_) (.inl (.inr ⟨{ cls := .type "list", data := .seq vs.toArray }, if_pos rfl⟩)) (fun b u z => ?_) (fun b z => ?_) fun _ => hk
    · by_cases hb : b = a
      · exact .inr ⟨_, _, if_pos hb⟩
      · exact .inl (if_neg hb)
    · by_cases hb : b = a
      · have z' := (if_pos hb).symm.trans z
        cases z'
        subst hb
        exact ⟨ha, by rw [List.length_map]; exact hl, vs, _, rv, ha⟩
      · have z' := (if_neg hb).symm.trans z
        cases z'
    · by_cases hb : b = a
      · exact hb
      · exact absurd (if_neg hb) z
theorem walk_ofBG {l : PySem.W.OpenLaw} {n k : Nat} {q : Program} {loose : List Str} {XP : (Str → Option Value) → Heap → Prop} {YP : World → Heap → Prop} {d : DefRec} {K : Params → PySem.W.Frag} {CX : World → CXT} {sp : World → Sp} {x : Str}
    (hn : l.most = some n) (hn2 : n ≤ sizeLine) (hdf : d.params.defaults = []) (hr : Room k callerA)
    (hY : ∀ (w : World) (h : Heap), YP w h → (K w.params).In h)
    (F : ∀ (w : World) (mg : Str → Option Value) (fa : Addr) (h : Heap), (K w.params).In h → h.Ns mainGlobals mg → mg d.name = some (.ref fa) →
      ∃ fd : FuncData, (∀ (s : Shared) (u : Value), BindsTo s fd ⟨[u], []⟩ [(x, u)]) ∧
        ∀ base : Heap, (K w.params).In base → base.Ns mainGlobals mg → FnG l.prog w (K w.params) mg base (CX w) k fa fd [x] (sp w))
    (hsp : ∀ (w : World) (H : Hp) (a : Addr) (ns : List Int), ns.length ≤ n → (∀ z ∈ ns, Builtin.Int.intBits z ≤ 1048576) → Only H → SqL (K w.params) H a (ns.map V.int) → sp w [.ref a] H (fun v _ => v = .bl true) fun _ _ _ => False)
    (hCX : ∀ (w : World) (H : Hp) (s : Shared) (e : Value) (s' : Shared), CX w [] H s (fun _ _ _ => False) e s' → False) :
    PySem.W.WalkO q loose XP YP l.row.toRowW d [] (fun f vs => PySem.call f vs) := by
  refine Att.attach_callB hn hdf fun w s₀ s₁ mg mb fa o pm cd doc a vs ns G Y ho hd hcd hmg hobj hints hlen hbits hg => ?_
  have KX := hY w _ Y
  obtain ⟨fd, hb, hF⟩ := F w mg fa _ KX G.T.g hmg
  exact law_callG KX G.T.g G.T.b G.T.builtins G.T.nolimit hg hobj hints (Nat.le_trans hlen hn2) hr hF hb (fun H hO hS => hsp w H a ns hlen hbits hO hS) fun H e s' => hCX w H s₁ e s'
end
/-! ### what is never reached -/
section
variable {X : Cx}
theorem ps_no {st : Stmt} : PS X st (fun _ _ _ => False) := ⟨fun _ _ _ _ _ _ h => h.elim⟩
theorem xfc {P : Program} {K : PySem.W.Frag} {C fI : Addr} {st : Stmt} {q : Str} {ps : List Str} {fs : List (Str × Sum Nat Str)} (T : ErrC P K C fI st q ps fs) : XfC K C := ⟨T.ga, T.gg, T.exC, T.hdC⟩
end
theorem for_nil {K : PySem.W.Frag} {a : Addr} {g : TG} {tb : TS} {D : Ends} {σ : L2.St} {H : Hp} (hl : SqL K H a []) (hd : D.nx σ H) :
    ∃ W : Nat → Nat → L2.St → Hp → Prop, (∃ m, W 0 m σ H) ∧ ∀ i m σ H, W i m σ H →
      ((Itl K a).stop i H ∧ D.nx σ H) ∨ ((Itl K a).go i H ∧ ∃ N : L2.St → Hp → Prop, (∀ σ' H', N σ' H' → ∃ m', m' < m ∧ W (i + 1) m' σ' H') ∧ ∀ x H', (Itl K a).yld i H x H' → g x σ H' fun σ2 H2 => tb { D with nx := N, ct := N, bk := D.nx } σ2 H2) :=
  for_list (xs := []) (fun _ σ' H' => σ' = σ ∧ H' = H) ⟨rfl, rfl⟩ (fun i σ' H' _ p => p.2 ▸ hl) (fun i x σ' H' e _ => by simp at e) (fun σ' H' p => by rw [p.1, p.2]; exact hd)
/-! ### o.m(e, .., k = v, ..), with a wish by the slots -/
section
open PySem PySem.Spec PyProof.Rows
variable {X : Cx} {CX : CXT} {k n : Nat} {f C : Addr} {fd : FuncData} {ps ks : List Str} {sp : Sp} {E : L2.St → XK} {m : Str} {pos apos : Pos} {e o : Expr} {es : List Expr} {kws : List Keyword} {ta : TE} {t tk : TA} {g : List Value → List Value → List Value} {gV : List V → List V → List V}
def tMethK (C : Addr) (m : Str) (n j : Nat) (sp : Sp) (gV : List V → List V → List V) (E : L2.St → XK) (to : TE) (ta tk : TA) : TE := fun σ H Q => to σ H fun x H1 => ∃ a dx fs, x = .ref a ∧ H1 a = some (.ins C dx fs) ∧ fs.lookup m = none ∧ ta σ H1 fun vs H2 => tk σ H2 fun zs H3 => vs.length = n ∧ zs.length = j ∧ sp (gV (.ref a :: vs) zs) H3 Q (E σ)
theorem run_kw {pins : List (Addr × Obj)} {σ : L2.St} {H : Hp} {s : Shared} {Q : VK} {us ws : List Value} {vs zs : List V} (F : FnOk X.prog X.w X.K X.mg X.base CX k f fd ps sp) (hr : Room k X.A) (hb : KBn X.K fd ps n ks g gV) (hx : PassesAt CX X σ (E σ))
    (I : Inv X pins σ H s) (r : Vals vs us) (rz : Vals zs ws) (l1 : vs.length = n) (l2 : zs.length = ks.length) (h : sp (gV vs zs) H Q (E σ)) : wpAny (model X.prog X.w) X.A (call (.ref f) us (ks.zip ws)) (EP X pins σ Q) X.xe s := by
  have bt := hb.to s us ws I.kIn (r.length.symm.trans l1) (rz.length.symm.trans l2)
  refine wpAny_call (codeAny_mono (F.run X.A X.stack s H ⟨us, ks.zip ws⟩ (g us ws) (gV vs zs) Q (E σ) hr I.env0 bt (hb.rel r rz) h) fun q s' hq => ?_)
  match q, hq with
  | .error e, hq => exact hx pins H s e s' I hq
  | .ok (.ret u), hq => exact I.after hq
  | .ok .next, hq => exact hq.elim
  | .ok .brk, hq => exact hq.elim
  | .ok .cont, hq => exact hq.elim
theorem pe_methK {pl : Sem Bool} (ho : PE X o ta) (c : Cls X.K C) (hm : Meth X.K C m f) (F : FnOk X.prog X.w X.K X.mg X.base CX k f fd ps sp) (hr : Room k X.A) (hb : KBn X.K fd ps (n + 1) ks g gV) (hx : ∀ σ, PassesAt CX X σ (E σ)) (ha : PA X (e :: es) t) (hkw : PK X kws tk)
    (hall : (backToKw pos (keywordEach kws X.env)).all (·.1.isSome) = true := by rfl) (hks : (backToKw pos (keywordEach kws X.env)).filterMap (·.1) = ks := by rfl)
    (hst : starEach (e :: es) X.env = (false, eval e X.env) :: starEach es X.env := by rfl) (hpl : ((backTo pos (starEach (e :: es) X.env)).any (·.1) || (backToKw pos (keywordEach kws X.env)).any (·.1.isNone)) = false := by rfl)
    (ht : eval (.Call (.Attribute o m apos) (e :: es) kws pos) X.env = (do
      let ov ← eval o X.env
      standAt apos.atName
      let (f, first) ← holding [ov] (getMethod ov m pl)
      callWith pos f first (backTo pos (starEach (e :: es) X.env)) (backToKw pos (keywordEach kws X.env))) := by rfl) :
    PE X (.Call (.Attribute o m apos) (e :: es) kws pos) (tMethK C m n ks.length sp gV E ta t tk) := by
  refine ⟨fun pins s σ H Q I h => ?_⟩
  refine PySem.W.methodCall_KW (pl := pl) (thn (ho.run pins s σ H _ I h) fun u s1 ⟨x, H1, I1, rx, a, dx, fs, ex, ea, l, q⟩ => ?_) ht
  subst ex
  cases (show u = Value.ref a from rx)
  refine getmeth_ok I1 ea c hm l (PySem.W.callWith_KW (first := [.ref a]) (h₀ := X.base) I.ok.mod.kin hm.kp hall (thn (ha.run pos pins s1 σ H1 _ I1 q) fun us s2 ⟨vs, H2, I2, r, q2⟩ => ?_) hpl hst)
  refine thn (hkw.run pos pins s2 σ H2 _ I2 q2) fun ws s3 ⟨zs, H3, I3, rz, l1, l2, q3⟩ => ⟨I3.kIn, ?_⟩
  rw [hks]
  exact run_kw (us := .ref a :: us) (vs := .ref a :: vs) F hr hb (hx σ) I3 (.cons rfl r) rz (congrArg Nat.succ l1) l2 q3
end
/-! ### defs called while an exception is handled: its object stands aside -/
section
open PySem PySem.Spec PyProof.Rows
structure FnP (P : Program) (w : World) (K : PySem.W.Frag) (mg : Str → Option Value) (base : Heap) (CX : CXT) (k : Nat) (f : Addr) (fd : FuncData) (ps : List Str) (sp : Sp) : Prop where
  len : ∀ vs H Q E, sp vs H Q E → vs.length = ps.length
  run : ∀ (A : Around) (outer : List Env) (s : Shared) (H : Hp) (args : Args) (us : List Value) (vs : List V) (Q : VK) (E : XK) (p : Addr × Obj), L2H.RoomH k A → L2H.PinOk outer H s p → Env0 P w K mg base A outer s H → BindsTo s fd args (ps.zip us) → Vals vs us → sp vs H Q E →
    codeAny (model P w) A (.call (.ref f) args) (CR CX outer P w H s Q E) s
theorem fn_ofP {CX : CXT} {P : Program} {w : World} {K : PySem.W.Frag} {mg : Str → Option Value} {base : Heap} {k : Nat} {f : Addr} {name qual : Str} {params : Arguments} {body : List Stmt} {scope : Scope} {dV kV doc pm cdv ct oc : Value} {an od : Option Addr}
    {osl : Array (Option Value)} {N ps : List Str} {sp : Sp} (lk : K.lookup f = some ⟨oc, od, .func (PySem.W.fnOf name qual params body scope dV kV doc pm an cdv ct), osl⟩) (hcd : PySem.W.codeIn K cdv qual = true) (S : FnScope N ps scope)
    (len : ∀ vs H Q E, sp vs H Q E → vs.length = ps.length)
    (hbody : ∀ (A : Around) (outer : List Env) (s : Shared) (H : Hp) (vs : List V) (Q : VK) (E : XK) (p : Addr × Obj), L2H.RoomH k (A.deeper (envOfC qual scope s.heap.objs.size f cdv)) → sp vs H Q E →
      ∃ t, PSs (L2H.cxH CX P w K mg base N qual scope f cdv A outer s H E p) body t ∧ t { nx := fun _ H' => Q .non H', rt := Q } (L2.start N vs) H) :
    FnP P w K mg base CX (k + 1) f (PySem.W.fnOf name qual params body scope dV kV doc pm an cdv ct) ps sp := by
  refine ⟨len, fun A outer s H args us vs Q E p hr hp e0 hb r hsp => ?_⟩
  have kk : ∀ b o, base.get? b = some o → s.heap.get? b = some o := fun b o e => (e0.bs b o e).1
  have KX : K.In s.heap := e0.mod.kin.keeps kk
  have hk2 : ∀ y ∈ ps.zip us, scope.names.lookup y.1 = some .local ∨ (scope.names.lookup y.1 = some .cell ∧ ((cellsFrom (s.heap.objs.size + 1) scope.names []).lookup y.1).isSome = true) := fun y hy =>
    (S.par y.1 (List.of_mem_zip (a := y.1) (b := y.2) hy).1).imp id fun q => ⟨q, PySem.W.cellsFrom_some _ _ _ (.inl q)⟩
  refine codeAny_call_function hr.depth (KX _ _ lk) rfl S.co S.gen rfl (PySem.W.codeRec_of KX hcd) (hb _ _ _ _ (wpAny_newFunctionEnv_cells S.kind hk2 fun env he s1 x => ?_))
  subst he
  refine ⟨(e0.mod.nolimit.keeps kk).keeps x.toInCall.keep, codeAny_func ?_⟩
  obtain ⟨t, ht, hq⟩ := hbody A outer s H vs Q E p (hr.deeper _) hsp
  refine wpAny_mono (ht.run [] s1 _ H _ (L2H.inv_startH S hp e0 (len _ _ _ _ hsp) r x) hq) (fun fl s' hs => ?_) fun e s' hs => hs
  match fl, hs with
  | .ret u, ⟨v, σ', H', J, rv, q⟩ => exact ⟨v, H', J.os, J.bare, J.base, J.hok, rv, q⟩
  | .next, ⟨σ', H', J, q⟩ => exact ⟨.non, H', J.os, J.bare, J.base, J.hok, rfl, q⟩
  | .brk, ⟨_, _, _, q⟩ => exact q.elim
  | .cont, ⟨_, _, _, q⟩ => exact q.elim
theorem okP {P : Program} {w : World} {K : PySem.W.Frag} {mg : Str → Option Value} {base : Heap} {x qual : Str} {st : Stmt} {f : Addr} {fd : FuncData} {N ps : List Str} {k : Nat} {sp : Sp} (F : L2.Fun K x qual st f fd) (S : FnScope N ps (defScope st)) (len : ∀ vs H Q E, sp vs H Q E → vs.length = ps.length)
    (hbody : ∀ (cdv : Value) (A : Around) (outer : List Env) (s : Shared) (H : Hp) (vs : List V) (Q : VK) (E : XK) (p : Addr × Obj), L2H.RoomH k (A.deeper (envOfC qual (defScope st) s.heap.objs.size f cdv)) → sp vs H Q E →
      ∃ t, PSs (L2H.cxH CX0 P w K mg base N qual (defScope st) f cdv A outer s H E p).nox (defBody st) t ∧ t { nx := fun _ H' => Q .non H', rt := Q } (L2.start N vs) H) : FnP P w K mg base CX0 (k + 1) f fd ps sp := by
  obtain ⟨oc, od, kV, doc, pm, an, cdv, ct, osl, rfl, lk, hcd⟩ := F.ex
  refine fn_ofP lk hcd S len fun A outer s H vs Q E p hr hsp => ?_
  obtain ⟨t, h, q⟩ := hbody cdv A outer s H vs Q E p hr hsp
  exact ⟨t, h.nox, q⟩
section
variable {X : Cx} {CX : CXT} {k : Nat} {C p g a dx : Addr} {fs : List (Str × V)} {f : Str} {fd : FuncData} {ps : List Str} {sp : Sp} {dvs : List V} {ds : List Value} {E : XK} {e : Expr} {pos : Pos} {ta : TE}
/-- the exception that is handled stands aside here -/
def Aside (X : Cx) : Prop := ∃ q : Addr × Obj, q ∈ X.pn
theorem Aside.pin {pins : List (Addr × Obj)} {σ : L2.St} {H : Hp} {s : Shared} (h : Aside X) (I : Inv X pins σ H s) : ∃ q, L2H.PinOk X.stack H s q := by
  obtain ⟨q, hq⟩ := h
  obtain ⟨p1, p2, p3, p4, p5⟩ := I.pin q (List.mem_append_left _ hq)
  exact ⟨q, p1, p2, fun hm => (List.mem_cons.mp (I.stkSub q.1 hm)).elim p3 p4, p5⟩
/-- e.f, a property, there -/
theorem pe_propP (he : PE X e ta) (c : Cls X.K C) (hp : PropOf X.K C f p g) (F : FnP X.prog X.w X.K X.mg X.base CX0 k g fd ps sp) (hr : L2H.RoomH (k + 1) X.A) (hs : Aside X) (hb : Binds X.K fd ps ds) (hd : Vals dvs ds)
    (hab : attributeBase e f X.env (eval e X.env) = eval e X.env) : PE X (.Attribute e f pos) (tProp C sp dvs E0 ta) := by
  refine ⟨fun pins s σ H Q I h => ?_⟩
  refine attr_of hab (thn (he.run pins s σ H _ I h) fun u s1 ⟨x, H1, I1, rx, a, dx, fs, ex, ea, q⟩ => ?_)
  subst ex
  cases (show u = Value.ref a from rx)
  obtain ⟨mA, O, _, _, _, _⟩ := ins_get I1.hok ea
  obtain ⟨od, J, _⟩ := O.look
  obtain ⟨rest, hrec⟩ := hp.rec_
  have I2 := I1.tok (s1.toks + 1)
  obtain ⟨pq, hpq⟩ := hs.pin I2
  have hl : ([Value.ref a] ++ ds).length = ps.length := by
    have l1 := F.len _ _ _ _ q
    have l2 := hd.length
    simp only [List.length_append, List.length_cons, List.length_nil] at l1 ⊢
    omega
  have hc : (PySem.W.clsIn X.K C).isSome = true := by
    obtain ⟨cd, hc, _⟩ := PySem.W.any_some c.hd
    rw [hc]; rfl
  have pg := PySem.W.plainGet_of (c.get f)
  refine PySem.W.get_bind I1.kIn J pg.1 (PySem.W.findObj_data hc hp.at_ hp.get hp.tak) pg.2 (wpAny_call (PySem.W.prop_get (s := { s1 with toks := s1.toks + 1 }) I1.kIn hrec ?_))
  refine codeAny_mono (F.run X.A.in1 X.stack { s1 with toks := s1.toks + 1 } H1 ⟨[.ref a], []⟩ (.ref a :: ds) (.ref a :: dvs) Q _ pq ⟨by have := hr.dp; show X.A.depth + 3 * k + 5 < _; omega, by have := hr.un; show X.A.units + 1 + 16 * k + 200 < _; omega⟩ hpq I2.env0.in1 (hb _ [.ref a] I2.kIn hl) (.cons rfl hd) q) fun r s' hq => ?_
  match r, hq with
  | .error er, hq => exact hq.elim
  | .ok (.ret u), hq =>
    obtain ⟨v, H', I3, rv, q3⟩ := I2.after hq
    show wpAny _ _ (handedOut u) _ _ _
    rw [PySem.W.handedOut_of (handed_of rv)]
    exact wpAny_pure ⟨v, H', I3, rv, q3⟩
  | .ok .next, hq => exact hq.elim
  | .ok .brk, hq => exact hq.elim
  | .ok .cont, hq => exact hq.elim
end
end
/-! ### sets of texts -/
section
open PySem PySem.Spec PyProof.Rows
def keyT (e : Int × Value) : Str := match e.2 with
  | .str k _ => k
  | _ => Str.empty
/-- a table with the texts l, each once -/
structure TsOk (w : World) (es : Array (Int × Value)) (t : SetTable) (l : List Str) : Prop where
  good : ∀ e ∈ es.toList, ∃ k u, e = (hashStr w k, Value.str k u)
  perm : (es.toList.map keyT).Perm l
  nd : l.Nodup
  few : es.size < scanBound
  fit : t.fits es.size = true
  ris : L2.Ris t.place.toList
  led : w.params.followText "set-order" = true ∨ t.led = true
def TSet (w : World) (h : Heap) (a : Addr) (l : List Str) : Prop := ∃ o es ep t, h.get? a = some o ∧ o.ExactSet ∧ o.data = .set es ep t ∧ TsOk w es t l
section
variable {P : Program} {w : World} {h h' : Heap} {a : Addr} {l : List Str} {es : Array (Int × Value)} {t : SetTable}
theorem TSet.at (R : TSet w h a l) (k : ∀ o, h.get? a = some o → h'.get? a = some o) : TSet w h' a l := by
  obtain ⟨o, es, ep, t, ho, r⟩ := R
  exact ⟨o, es, ep, t, k o ho, r⟩
theorem str_isS (k : Str) (u : Tok) : (PySem.strKind P w).is k (.str k u) = true := by
  show Value.isStrOf k (.str k u) = true
  simp [Value.isStrOf]
theorem TsOk.elems (T : TsOk w es t l) : ElemsOf (PySem.strKind P w) es.toList := fun e he => by
  obtain ⟨k, u, rfl⟩ := T.good e he
  exact ⟨⟨k, str_isS k u, rfl⟩, rfl⟩
theorem TsOk.size (T : TsOk w es t l) : es.size = l.length := by
  have := T.perm.length_eq
  rwa [List.length_map, Array.length_toList] at this
theorem TsOk.is (T : TsOk w es t l) {e : Int × Value} (he : e ∈ es.toList) (k : Str) : (PySem.strKind P w).is k e.2 = true ↔ keyT e = k := by
  obtain ⟨j, u, rfl⟩ := T.good e he
  constructor
  · intro q
    exact ((PySem.strKind P w).inj (.str j u) k j q (str_isS j u)).symm
  · rintro rfl
    exact str_isS j u
theorem TsOk.mem (T : TsOk w es t l) (k : Str) : k ∈ l ↔ ∃ e ∈ es.toList, (PySem.strKind P w).is k e.2 = true := by
  rw [← T.perm.mem_iff, List.mem_map]
  exact ⟨fun ⟨e, he, q⟩ => ⟨e, he, (T.is he k).2 q⟩, fun ⟨e, he, q⟩ => ⟨e, he, (T.is he k).1 q⟩⟩
theorem TSet.setOf (R : TSet w h a l) : h.SetOf (PySem.strKind P w) a (fun k => decide (k ∈ l)) l.length := by
  obtain ⟨o, es, ep, t, ho, hx, hd, T⟩ := R
  exact ⟨o, es, ep, t, ho, hx, hd, T.elems, fun k => by rw [decide_eq_true_eq]; exact T.mem k, T.few, T.fit, T.size⟩
theorem TsOk.relay (T : TsOk w es t l) : TsOk w (relayAll t es (SetTable.grown es.size)).1 (relayAll t es (SetTable.grown es.size)).2.1 l := by
  have pm := relayAll_perm t es (SetTable.grown es.size)
  have hs : (relayAll t es (SetTable.grown es.size)).1.size = es.size := by rw [← Array.length_toList, pm.length_eq, Array.length_toList]
  exact ⟨fun e he => T.good e (pm.mem_iff.mp he), (pm.map keyT).trans T.perm, T.nd, by rw [hs]; exact T.few, relayAll_fits t es _, L2.relayAll_ris t es _, T.led.imp id fun z => by rw [L2.relayAll_led]; exact z⟩
theorem TsOk.off (T : TsOk w es t l) : TsOk w es { t with plain := false } l := ⟨T.good, T.perm, T.nd, T.few, SetTable.fits_plain_off T.fit, T.ris, T.led⟩
theorem TsOk.lay (T : TsOk w es t l) {k : Str} (u : Tok) (hk : k ∉ l) (room : l.length + 1 < scanBound) : TsOk w (layNew t es (hashStr w k) (.str k u)).1 (layNew t es (hashStr w k) (.str k u)).2.1 (k :: l) := by
  have pm := layNew_perm t es (hashStr w k) (.str k u)
  rw [Array.toList_push] at pm
  have pc := pm.trans (List.perm_append_singleton _ _)
  have pk : _ = _ := (pc.map keyT).length_eq
  have hs : (layNew t es (hashStr w k) (.str k u)).1.size = l.length + 1 := by
    rw [← Array.length_toList, pc.length_eq, List.length_cons, Array.length_toList, T.size]
  refine ⟨fun e he => ?_, (pc.map keyT).trans (T.perm.cons _), List.nodup_cons.mpr ⟨hk, T.nd⟩, by rw [hs]; exact room, layNew_fits t es _ _, L2.layNew_ris t es _ _ T.ris, T.led.imp id fun z => by rw [L2.layNew_led]; exact z⟩
  rcases List.mem_cons.mp (pc.mem_iff.mp he) with z | z
  · exact ⟨k, u, z⟩
  · exact T.good e z
theorem TSet.new (w : World) (h : Heap) : TSet w (h.push { cls := .type "set", dict := none, data := .set #[] 0 (.fresh 0 0 (!w.params.followText "set-order")) }) h.objs.size [] := by
  refine ⟨_, #[], 0, _, Heap.get?_push_size _ rfl, ⟨rfl, rfl, rfl⟩, rfl, (fun e he => by simp at he), by simp, List.nodup_nil, by decide, by rfl, List.Pairwise.nil, ?_⟩
  show _ ∨ (!w.params.followText "set-order") = true
  cases w.params.followText "set-order" <;> simp
end
/-- with k -/
def addT (k : Str) (l : List Str) : List Str := if k ∈ l then l else k :: l
theorem addT_mem {k j : Str} {l : List Str} : j ∈ addT k l ↔ j = k ∨ j ∈ l := by
  unfold addT
  split
  · rename_i h
    exact ⟨.inr, fun z => z.elim (fun e => e ▸ h) id⟩
  · exact List.mem_cons
theorem addT_nd {k : Str} {l : List Str} (h : l.Nodup) : (addT k l).Nodup := by
  unfold addT
  split
  · exact h
  · rename_i q
    exact List.nodup_cons.mpr ⟨q, h⟩
theorem addT_len {k : Str} {l : List Str} : (addT k l).length ≤ l.length + 1 := by
  unfold addT
  split <;> simp
section
variable {P : Program} {w : World} {A : Around} {E : Value → Shared → Prop} {s : Shared} {a : Addr} {l : List Str}
theorem ts_tail {g : Bool → Sem Unit} (hg : ∀ (b : Bool) (z : Shared) (q : Unit → Shared → Prop), q () z → wpAny (model P w) A (g b) q E z) {o : Obj} {es es1 : Array (Int × Value)} {ep : Nat} {t t2 : SetTable} (ho : s.heap.get? a = some o) (hex : o.ExactSet) (hd : o.data = .set es ep t)
    (T : TsOk w es1 t2 l) {wd : Bool} {R : Option Bool → Shared → Prop} (hR : ∀ h', Heap.SameBut a s.heap h' → TSet w h' a l → R (some true) { s with heap := h' }) :
    wpAny (model P w) A (do
        storeSet a es1 t2
        if (!wd && t2.tooFull) = true then do
            g (relayAll t2 es1 (SetTable.grown es1.size)).2.2
            storeSet a (relayAll t2 es1 (SetTable.grown es1.size)).1 (relayAll t2 es1 (SetTable.grown es1.size)).2.1
            pure (some true)
          else pure (some true)) R E s := by
  have sb := Heap.SameBut.update s.heap a (Obj.putSet es1 t2)
  have ho1 := L2.store_at (es' := es1) (t' := t2) ho hd
  refine wpAny_bind (wpAny_storeSet_of ho hd ?_ (fits_of_scanBound T.few))
  split
  · have T2 := T.relay
    generalize relayAll t2 es1 (SetTable.grown es1.size) = Z at T2 ⊢
    obtain ⟨es2, t3, gv⟩ := Z
    dsimp only at T2 ⊢
    refine wpAny_bind (hg _ _ _ (wpAny_bind (wpAny_storeSet_of ho1 rfl ?_ (fits_of_scanBound T2.few))))
    exact wpAny_pure (hR _ (sb.trans (Heap.SameBut.update _ a _)) ⟨_, es2, _, t3, L2.store_at (es' := es2) (t' := t3) ho1 rfl, hex, rfl, T2⟩)
  · exact wpAny_pure (hR _ sb ⟨_, es1, _, t2, ho1, hex, rfl, T⟩)
theorem ts_addH {k : Str} {u : Tok} {Q : Bool → Shared → Prop} (R : TSet w s.heap a l) (room : l.length + 1 < scanBound) (hQ : ∀ h' b, Heap.SameBut a s.heap h' → TSet w h' a (addT k l) → Q b { s with heap := h' }) :
    wpAny (model P w) A (setAddHashed a (.str k u) ((PySem.strKind P w).hash k)) Q E s := by
  obtain ⟨o, es, ep, t, ho, hex, hd, T⟩ := R
  have hel : ElemsOf (PySem.strKind P w) es.toList := T.elems
  have hgw : ∀ (b : Bool) (z : Shared) (q : Unit → Shared → Prop), q () z → wpAny (model P w) A (match b with | true => rule "set.scan.the-table-gave-way" | false => pure ()) q E z := fun b z q hq => by
    cases b
    · exact wpAny_pure hq
    · exact wpAny_rule hq
  unfold setAddHashed setAddHashedIn
  refine wpAny_holding (wpAny_bind (wpAny_setState_of ho hd T.fit ?_))
  dsimp only
  rw [byScan_of (show (Value.str k u).scannable = true from rfl) T.few hel]
  simp only [↓reduceIte]
  unfold setAddByScan
  refine wpAny_bind (wpAny_bind (wpAny_rule (wpAny_bind (wpAny_setScan_of (str_isS k u) ho hd T.fit hel ?_))))
  cases hfi : List.findIdx? (fun e => (PySem.strKind P w).is k e.2) es.toList with
  | some j =>
    dsimp only
    obtain ⟨hj, pj, _⟩ := List.findIdx?_eq_some_iff_getElem.mp hfi
    have hk : k ∈ l := (T.mem (P := P) k).2 ⟨_, List.getElem_mem hj, pj⟩
    refine wpAny_pure (wpAny_pure (hQ s.heap _ (Heap.SameBut.refl a s.heap) ?_))
    rw [show addT k l = l from if_pos hk]
    exact ⟨o, es, ep, t, ho, hex, hd, T⟩
  | none =>
    dsimp only
    have hk : k ∉ l := fun z => by
      obtain ⟨e, he, q⟩ := (T.mem (P := P) k).1 z
      have c := List.findIdx?_eq_none_iff.mp hfi e he
      rw [q] at c; cases c
    rw [show addT k l = k :: l from if_neg hk] at hQ
    have T1 : TsOk w (layNew t es ((PySem.strKind P w).hash k) (.str k u)).1 (layNew t es ((PySem.strKind P w).hash k) (.str k u)).2.1 (k :: l) := T.lay u hk room
    generalize layNew t es ((PySem.strKind P w).hash k) (.str k u) = Z at T1 ⊢
    obtain ⟨es1, t1, wd, gv⟩ := Z
    dsimp only at T1 ⊢
    refine wpAny_bind (hgw _ _ _ ?_)
    split
    · refine wpAny_bind ?_
      rw [hashByValue_scannable 8 (x := Value.str k u) rfl]
      refine wpAny_pure (ts_tail (l := k :: l) ?_ ho hex hd ?_ fun h' sb r => ?_)
      · exact fun b z q hq => hgw b z q hq
      · split
        · exact T1
        · exact T1.off
      · dsimp only
        exact wpAny_pure (hQ h' _ sb r)
    · refine wpAny_bind (wpAny_pure ?_)
      simp only [↓reduceIte]
      refine ts_tail ?_ ho hex hd T1 fun h' sb r => ?_
      · exact fun b z q hq => hgw b z q hq
      · dsimp only
        exact wpAny_pure (hQ h' _ sb r)
end
end
/-! ### sets of texts, tracked: add, comprehensions, sorted -/
section
open PySem PySem.Spec PyProof.Rows
def TSO (w : World) (a : Addr) (l : List Str) : HO := .ext fun h => TSet w h a l
theorem tso_new {w : World} {P : Program} {H : Hp} {h : Heap} {a : Addr} {l : List Str} (R : TSet w h a l) : ObjOk P w H h a (TSO w a l) := by
  have ⟨o, _, _, _, ho, _⟩ := R
  exact ⟨R, ⟨o, ho⟩, fun _ _ q k => q.at k⟩
section
variable {X : Cx}
theorem tso_get {pins : List (Addr × Obj)} {σ : L2.St} {H : Hp} {s : Shared} {a : Addr} {l : List Str} (I : Inv X pins σ H s) (ha : H a = some (TSO X.w a l)) : TSet X.w s.heap a l := (I.hok a _ ha).1
theorem ts_add {pins : List (Addr × Obj)} {σ : L2.St} {H : Hp} {s : Shared} {E : Value → Shared → Prop} {D : Addr} {l : List Str} {k : Str} {u : Tok} {Q : Value → Shared → Prop} (I : Inv X pins σ H s) (hD : H D = some (TSO X.w D l)) (room : l.length + 1 < scanBound)
    (h : ∀ s', Inv X pins σ (upd H D (TSO X.w D (addT k l))) s' → Q .none s') : wpAny (model X.prog X.w) X.A (call (.builtin "set.add") [.ref D, .str k u]) Q E s := by
  have R := tso_get I hD
  have hS : s.heap.SetOf (PySem.strKind X.prog X.w) D (fun k => decide (k ∈ l)) l.length := R.setOf
  refine wpAny_call_entry F.slot_set_add hS.typeIs F.entry_set_add ?_ (F.args_set_add_2 _ _)
  unfold Builtin.«set.add» Builtin.Frozenset.oneOther
  simp only [List.isEmpty_nil, bind_assoc]
  unfold Builtin.Frozenset.addrOf setAdd
  refine wpAny_bind (wpAny_pure ?_)
  try dsimp only
  refine wpAny_bind (wpAny_pure ?_)
  try dsimp only
  refine wpAny_bind (wpAny_holding (wpAny_bind ((PySem.strKind X.prog X.w).pyHash (str_isS k u) (ts_addH (s := { s with toks := s.toks + 1 }) R room fun h' b sb new => ?_))))
  have he : ∃ v, h'.get? D = some v := let ⟨o, _, _, _, ho, _⟩ := new; ⟨o, ho⟩
  exact wpAny_pure ⟨_, rfl, h _ (I.write (e := D) (t' := s.toks + 1) (by rw [hD]; trivial) (.inl rfl) (fun b v hb hu => (sb.2 b hb).trans hu) he (tso_new new))⟩
/-- {elt for target in iter if ..}, elt a text: D the new set -/
def tScT (w : World) (wi : TI) (g : TG) (tt : TT) (te : TE) (vs : List Nat) : TE := fun σ H Q => wi σ H fun J H1 => ∀ D, H1 D = none → ∃ W : Nat → Nat → Hp → Prop, (∃ m, W 0 m (upd H1 D (TSO w D []))) ∧ ∀ i m H, W i m H →
  (J.stop i H ∧ Q (.ref D) H) ∨ (J.go i H ∧ ∃ Nx : Hp → Prop, (∀ H', Nx H' → ∃ m', m' < m ∧ W (i + 1) m' H') ∧ ∀ x H', J.yld i H x H' → g x (wipe σ vs) H' fun σ2 H2 => wipe σ2 vs = wipe σ vs ∧ tt σ2 H2 fun b H3 =>
    if b = true then te σ2 H3 fun y H4 => ∃ (c : Str) (l : List Str), y = .str c ∧ H4 D = some (TSO w D l) ∧ l.length + 1 < scanBound ∧ Nx (upd H4 D (TSO w D (addT c l))) else Nx H3)
theorem pe_scT {elt tg iter : Expr} {ifs : List Expr} {scope : Scope} {own : List (Str × Nat)} {pos : Pos} {wi : TI} {g : TG} {tt : TT} {te : TE} (hc : X.calm = true) (hN : X.N.Nodup) (hi : PI X tg iter wi) (ok : BlkOk X.N X.env.scope scope own)
    (hg : ∀ (s : Shared) (H : Hp) (C : Addr) (cl : List (Str × Addr)) (fp : List Addr), PG (X.blk s H scope (compEnvC scope cl C X.env) fp) tg g) (ht : ∀ (s : Shared) (H : Hp) (C : Addr) (cl : List (Str × Addr)) (fp : List Addr), PTs (X.blk s H scope (compEnvC scope cl C X.env) fp) ifs tt)
    (he : ∀ (s : Shared) (H : Hp) (C : Addr) (cl : List (Str × Addr)) (fp : List Addr), PE (X.blk s H scope (compEnvC scope cl C X.env) fp) elt te) (hs : ∀ x, foldedSetIterable iter X.env x = pure x := by intro _; rfl) :
    PE X (.SetComp elt [⟨tg, iter, ifs, 0⟩] scope pos) (tScT X.w wi g tt te (own.map (·.2))) := by
  refine ⟨fun pins s σ H Q I h => ?_⟩
  rw [PpSet.eval_SetComp]
  have fr : ∀ y ∈ scope.names, y.2 = .free → ∃ c, X.env.cells.lookup y.1 = some c := fun y hy e => (ok.free y hy e).elim (fun k => I.ok.has _ (.inl k)) fun k => I.ok.has _ (.inr k)
  refine wpAny_comprehension_free (use := none) rfl hs (closure_ok fr) ok.kind (fun y hy e => by rw [ok.uniq y hy, e]) (thn (hi.run pins s σ H _ I h) fun xv s1 hx => thn hx fun itv s2 h2 => ?_)
  obtain ⟨it, fp, tn, J, H2, rfl, I2, T, st2, f2, q⟩ := h2
  refine PpSet.newSet_ok (newEnv_comp ?_)
  generalize hD : s2.heap.objs.size = D
  obtain ⟨W, ⟨m0, w0⟩, turn⟩ := q D (I2.hok.fresh (Nat.le_of_eq hD))
  generalize hs3 : ({ s2 with heap := s2.heap.push { cls := .type "set", dict := none, data := .set #[] 0 (.fresh 0 0 (!X.w.params.followText "set-order")) } } : Shared) = s3
  have e3 : s3.heap = s2.heap.push { cls := .type "set", dict := none, data := .set #[] 0 (.fresh 0 0 (!X.w.params.followText "set-order")) } := by rw [← hs3]
  have I3 : Inv X pins σ (upd H2 D (TSO X.w D [])) s3 := by
    rw [← hs3]
    exact I2.laid (t' := s2.toks) (fun b o e => Heap.get?_push_of_some _ e) (Nat.le_of_eq hD) (hD ▸ tso_new (TSet.new X.w s2.heap))
  have f3 : ∀ b ∈ fp, FpOk X pins (upd H2 D (TSO X.w D [])) b ∧ b < s3.heap.objs.size := fun b hb => by
    obtain ⟨o, e, _⟩ := T.obj _ _ st2 b hb
    have lt := Heap.lt_size e
    refine ⟨⟨?_, (f2 b hb).2⟩, by rw [e3, Heap.size_push]; exact Nat.lt_succ_of_lt lt⟩
    rw [upd_ne (by rw [← hD]; exact Nat.ne_of_lt lt)]
    exact (f2 b hb).1
  have I4 := block_start I3 ok hN f3
  have pg := hg s3 (upd H2 D (TSO X.w D [])) s3.heap.objs.size (cellsFrom (s3.heap.objs.size + 1) scope.names (cloFrom X.env.cells scope.names [])) fp
  have pt := ht s3 (upd H2 D (TSO X.w D [])) s3.heap.objs.size (cellsFrom (s3.heap.objs.size + 1) scope.names (cloFrom X.env.cells scope.names [])) fp
  have pe := he s3 (upd H2 D (TSO X.w D [])) s3.heap.objs.size (cellsFrom (s3.heap.objs.size + 1) scope.names (cloFrom X.env.cells scope.names [])) fp
  have fin0 : ∀ s' m H', Inv X pins σ H' s' → Q (.ref D) H' → s'.heap.Ns s3.heap.objs.size m → FpOk X pins H' s3.heap.objs.size → compPost (model X.prog X.w) X.A X.xe none (EP X pins σ Q) (.ref D) s3.heap.objs.size (.ok .next) s' := fun s' m H' I' q hn f => by
    obtain ⟨f0, f1, f2, f3, f4, f5⟩ := f
    exact ⟨m, hn, fun h'' sb => ⟨.ref D, H', I'.turned (t' := s'.toks) (fun b o hb e => (sb.2 b hb).trans e) f0 f1 f3 f4 f5, rfl, q⟩⟩
  show codeAny _ _ (.compStart (.SetComp elt [⟨tg, iter, ifs, 0⟩] scope pos) 0 (.ref it) (.ref D) (compEnvC scope (cellsFrom (s3.heap.objs.size + 1) scope.names (cloFrom X.env.cells scope.names [])) s3.heap.objs.size X.env)) (compPost (model X.prog X.w) X.A X.xe none (EP X pins σ Q) (.ref D) s3.heap.objs.size) { s3 with heap := pushCells (s3.heap.push { cls := .type "dict", data := .dict #[] }) scope.names }
  have nfp : ∀ b ∈ fp, (upd H2 D (TSO X.w D [])) b = none := fun b hb => (f3 b hb).1.1
  have st3 : tn 0 s3.heap := T.keep _ _ _ st2 fun b _ o e => by rw [e3]; exact Heap.get?_push_of_some _ e
  generalize hce : compEnvC scope (cellsFrom (s3.heap.objs.size + 1) scope.names (cloFrom X.env.cells scope.names [])) s3.heap.objs.size X.env = ce at I4 pg pt pe ⊢
  have cL : ce.locals = s3.heap.objs.size := by subst hce; rfl
  generalize hH3 : upd H2 D (TSO X.w D []) = H3 at I3 I4 pg pt pe w0 nfp f3
  generalize hs4 : ({ s3 with heap := pushCells (s3.heap.push { cls := .type "dict", data := .dict #[] }) scope.names } : Shared) = s4 at I4 ⊢
  have st4 : tn 0 s4.heap := T.keep _ _ _ st3 fun b _ o e => by rw [← hs4]; exact pushCells_keeps _ _ _ _ (Heap.get?_push_of_some _ e)
  have stat : ∀ {σ' : L2.St} {H' : Hp} {s' : Shared}, Inv (X.blk s3 H3 scope ce fp) [] σ' H' s' → (∀ b ∈ fp, H' b = none) → ∀ b ∈ fp, FpOk (X.blk s3 H3 scope ce fp) [] H' b := fun {σ' H' s'} J hn b hb =>
    ⟨hn b hb, (J.ok.exf b hb).1, J.ok.exfs b hb, .inl hb, fun x c e => (J.ok.exf b hb).2 x c e, fun p hp => absurd (show p ∈ ([] : List (Addr × Obj)) ++ [] from hp) (by simp)⟩
  have loop : codeAny (model X.prog X.w) X.A (.compLoop (.SetComp elt [⟨tg, iter, ifs, 0⟩] scope pos) 0 (.ref it) (.ref D) ce) (compPost (model X.prog X.w) X.A X.xe none (EP X pins σ Q) (.ref D) s3.heap.objs.size) s4 := by
    refine PpSet.compLoopS_any (fun n s' => ∃ i H', Inv (X.blk s3 H3 scope ce fp) [] (wipe σ (own.map (·.2))) H' s' ∧ tn i s'.heap ∧ (∀ b ∈ fp, H' b = none) ∧ W i n H') ?_ m0 ⟨0, H3, I4, st4, nfp, w0⟩
    rintro n s5 ⟨i, H5, I5, st5, n5, w5⟩
    rcases turn i n H5 w5 with ⟨stop, qq⟩ | ⟨go, Nx, hNx, step⟩
    · refine thnF (T.done (X.blk s3 H3 scope ce fp) rfl rfl rfl hc i [] s5 _ H5 (fun _ _ => False) I5 (stat I5 n5) st5 stop) fun r s6 ⟨hr, I6⟩ => ?_
      subst hr
      have I7 : Inv X pins σ H5 s6 := I3.call' (ch := fp) I6.os I6.base I6.hok I6.bare fun b hb => let ⟨_, g1, _, g3, g4, g5⟩ := (f3 b hb).1; ⟨g3, g1, g4, g5⟩
      have nC : H5 ce.locals = none := I6.free
      obtain ⟨m, hn, _⟩ := I6.loc
      have hn : s6.heap.Ns ce.locals m := hn
      rw [cL] at hn nC
      exact fin0 s6 m H5 I7 qq hn (I3.fpOk (Nat.le_refl _) nC)
    · refine thnF (T.item (X.blk s3 H3 scope ce fp) rfl rfl rfl hc i [] s5 _ H5 (fun _ _ => False) I5 (stat I5 n5) st5 go) fun r s6 ⟨u, hr, h6⟩ => ?_
      subst hr
      refine thnF h6 fun _ s7 ⟨x, H7, I7, r7, y7, st7, n7⟩ => ?_
      refine thnF (pg.run _ s7 _ H7 x u _ (I7.pinned (stat I7 n7) (T.obj _ _ st7)) r7 (step x H7 y7)) fun _ s8 ⟨σ8, H8, I8, hw8, q8⟩ => ?_
      refine thnF (pt.run _ s8 σ8 H8 _ I8 q8) fun b s9 ⟨H9, I9, q9⟩ => ?_
      have back : ∀ {s' : Shared} {H' : Hp}, Inv (X.blk s3 H3 scope ce fp) ([] ++ pinsAt fp s7.heap) σ8 H' s' → Nx H' → ∃ m, m < n ∧ ∃ i H', Inv (X.blk s3 H3 scope ce fp) [] (wipe σ (own.map (·.2))) H' s' ∧ tn i s'.heap ∧ (∀ b ∈ fp, H' b = none) ∧ W i m H' := fun {s' H'} J nx => by
        obtain ⟨m', hm, w'⟩ := hNx H' nx
        have pin : ∀ b ∈ fp, ∀ o, s7.heap.get? b = some o → s'.heap.get? b = some o ∧ H' b = none := fun b hb o e =>
          let z := J.pin (b, o) (List.mem_append_right _ (List.mem_append_right _ (mem_pinsAt hb e))); ⟨z.1, z.2.1⟩
        refine ⟨m', hm, i + 1, H', (J.unpinned (pins := [])).weak (by rw [← hw8, wipe_length]) (fun j v e => ?_), T.keep _ _ _ st7 fun b hb o e => (pin b hb o e).1, fun b hb => ?_, w'⟩
        · rw [← hw8] at e
          exact (wipe_some e).1
        · obtain ⟨o, e, _⟩ := T.obj _ _ st7 b hb
          exact (pin b hb o e).2
      cases b with
      | false =>
        simp only [Bool.false_eq_true, if_false] at q9 ⊢
        exact back I9 q9
      | true =>
        simp only [if_true] at q9 ⊢
        refine thnF (pe.run _ s9 σ8 H9 _ I9 q9) fun z s10 ⟨yv, H10, I10, r10, c, l, ey, hD10, hz10, nx⟩ => ?_
        subst ey
        obtain ⟨tk, rfl⟩ := r10
        exact ts_add (X := X.blk s3 H3 scope ce fp) I10 hD10 hz10 fun s11 I11 => back I11 nx
  exact PpSet.codeAny_compStart_set loop (T.self X.A 0 _ _ _ st4 loop)
end
/-- over a list that the block leaves as it is -/
theorem sc_listT {w : World} {K : PySem.W.Frag} {a : Addr} {xs : List V} {g : TG} {tt : TT} {te : TE} {vs : List Nat} {σ : L2.St} {H1 : Hp} {D : Addr} {Qd : Hp → Prop} (Pv : Nat → Hp → Prop) (h0 : Pv 0 (upd H1 D (TSO w D []))) (hl : ∀ i H, i ≤ xs.length → Pv i H → SqL K H a xs)
    (hs : ∀ i x H, xs[i]? = some x → Pv i H → g x (wipe σ vs) H fun σ2 H2 => wipe σ2 vs = wipe σ vs ∧ tt σ2 H2 fun b H3 =>
      if b = true then te σ2 H3 fun y H4 => ∃ (c : Str) (l : List Str), y = .str c ∧ H4 D = some (TSO w D l) ∧ l.length + 1 < scanBound ∧ Pv (i + 1) (upd H4 D (TSO w D (addT c l))) else Pv (i + 1) H3) (hd : ∀ H, Pv xs.length H → Qd H) :
    ∃ W : Nat → Nat → Hp → Prop, (∃ m, W 0 m (upd H1 D (TSO w D []))) ∧ ∀ i m H, W i m H →
      ((Itl K a).stop i H ∧ Qd H) ∨ ((Itl K a).go i H ∧ ∃ Nx : Hp → Prop, (∀ H', Nx H' → ∃ m', m' < m ∧ W (i + 1) m' H') ∧ ∀ x H', (Itl K a).yld i H x H' → g x (wipe σ vs) H' fun σ2 H2 => wipe σ2 vs = wipe σ vs ∧ tt σ2 H2 fun b H3 =>
        if b = true then te σ2 H3 fun y H4 => ∃ (c : Str) (l : List Str), y = .str c ∧ H4 D = some (TSO w D l) ∧ l.length + 1 < scanBound ∧ Nx (upd H4 D (TSO w D (addT c l))) else Nx H3) := by
  refine ⟨fun i m H => m = xs.length - i ∧ i ≤ xs.length ∧ Pv i H, ⟨xs.length, (Nat.sub_zero _).symm, Nat.zero_le _, h0⟩, ?_⟩
  rintro i m H ⟨rfl, hi, p⟩
  have q := hl i H hi p
  rcases Nat.lt_or_ge i xs.length with lt | ge
  · refine .inr ⟨⟨xs, xs[i], q, by simp [lt]⟩, Pv (i + 1), fun H' p' => ⟨xs.length - (i + 1), by omega, rfl, lt, p'⟩, fun x H' y => ?_⟩
    obtain ⟨e, y⟩ := y
    subst e
    exact hs i x _ (y xs q) p
  · obtain rfl : i = xs.length := Nat.le_antisymm hi ge
    exact .inl ⟨⟨xs, q, Nat.le_refl _⟩, hd H p⟩
end
/-! ### sorted texts -/
section
open PySem PySem.Spec PyProof.Rows
/-- x stands ahead of y, or they are the same -/
def leT (x y : Str) : Prop := ¬ y.cps.toList < x.cps.toList
instance (x y : Str) : Decidable (leT x y) := inferInstanceAs (Decidable (¬ _))
theorem str_ext {x y : Str} (h : x.cps.toList = y.cps.toList) : x = y := by
  cases x
  cases y
  exact congrArg Str.mk (Array.toList_inj.mp h)
theorem nlt_irrefl : ∀ l : List Nat, ¬ l < l := List.lt_irrefl
theorem leT_refl (x : Str) : leT x x := List.lt_irrefl _
theorem leT_anti {x y : Str} (h : leT x y) (k : leT y x) : x = y := str_ext (List.le_antisymm (List.not_lt.mp h) (List.not_lt.mp k))
theorem leT_trans {x y z : Str} (h : leT x y) (k : leT y z) : leT x z := List.not_lt.mpr (List.le_trans (List.not_lt.mp h) (List.not_lt.mp k))
theorem leT_total (x y : Str) : leT x y ∨ leT y x := by
  rcases List.le_total x.cps.toList y.cps.toList with h | h
  · exact .inl (List.not_lt.mpr h)
  · exact .inr (List.not_lt.mpr h)
theorem rising_pw : ∀ (l : List Str) (p : Str), risingS p l = true → (p :: l).Pairwise leT
  | [], p, _ => by simp
  | x :: r, p, h => by
    have h1 : (leT p x) ∧ risingS x r = true := by
      unfold risingS at h
      rw [Bool.and_eq_true, PyProof.Rows.ltCps_eq, Bool.not_eq_true', decide_eq_false_iff_not] at h
      exact h
    have ih := rising_pw r x h1.2
    refine List.pairwise_cons.mpr ⟨fun y hy => ?_, ih⟩
    rcases List.mem_cons.mp hy with rfl | hy
    · exact h1.1
    · exact leT_trans h1.1 ((List.pairwise_cons.mp ih).1 y hy)
theorem sorted_pw {l : List Str} (h : sortedS l = true) : l.Pairwise leT := by
  cases l with
  | nil => exact .nil
  | cons x r => exact rising_pw r x h
theorem pw_unique : ∀ {l m : List Str}, l.Perm m → l.Pairwise leT → m.Pairwise leT → l = m
  | [], m, p, _, _ => (List.perm_nil.mp p.symm).symm
  | x :: l, m, p, hl, hm => by
    cases m with
    | nil => exact absurd (List.perm_nil.mp p) (by simp)
    | cons y m =>
      have e : x = y := by
        have h1 : x ∈ y :: m := p.mem_iff.mp List.mem_cons_self
        have h2 : y ∈ x :: l := p.mem_iff.mpr List.mem_cons_self
        rcases List.mem_cons.mp h1 with e | h1
        · exact e
        rcases List.mem_cons.mp h2 with e | h2
        · exact e.symm
        exact leT_anti ((List.pairwise_cons.mp hl).1 y h2) ((List.pairwise_cons.mp hm).1 x h1)
      subst e
      rw [pw_unique (List.perm_cons _ |>.mp p) (List.pairwise_cons.mp hl).2 (List.pairwise_cons.mp hm).2]
/-- sorted -/
def sortT (l : List Str) : List Str := l.mergeSort fun x y => decide (leT x y)
theorem sortT_perm (l : List Str) : (sortT l).Perm l := List.mergeSort_perm l _
theorem sortT_pw (l : List Str) : (sortT l).Pairwise leT := by
  have h := List.pairwise_mergeSort (le := fun x y => decide (leT x y)) (fun a b c h k => by
    rw [decide_eq_true_eq] at h k ⊢
    exact leT_trans h k) (fun a b => by
    rw [Bool.or_eq_true, decide_eq_true_eq, decide_eq_true_eq]
    exact leT_total a b) l
  exact h.imp fun h => of_decide_eq_true h
theorem sortT_of {l ys : List Str} (p : ys.Perm l) (h : sortedS ys = true) : ys = sortT l := pw_unique (p.trans (sortT_perm l).symm) (sorted_pw h) (sortT_pw l)
theorem sortT_congr {l m : List Str} (p : l.Perm m) : sortT l = sortT m := pw_unique ((sortT_perm l).trans (p.trans (sortT_perm m).symm)) (sortT_pw l) (sortT_pw m)
theorem sortT_mem {l : List Str} {k : Str} : k ∈ sortT l ↔ k ∈ l := (sortT_perm l).mem_iff
theorem sortT_len {l : List Str} : (sortT l).length = l.length := (sortT_perm l).length_eq
theorem nd_perm {l m : List Str} (hl : l.Nodup) (hm : m.Nodup) (h : ∀ k, k ∈ l ↔ k ∈ m) : l.Perm m := by
  rw [List.perm_iff_count]
  intro k
  rw [hl.count, hm.count]
  simp [h k]
theorem strs_ofV : ∀ (l : List Value), (∀ v ∈ l, ∃ k u, v = Value.str k u) → ∃ ss, StrsAre l ss ∧ l.map (fun v => keyT (0, v)) = ss
  | [], _ => ⟨[], .nil, rfl⟩
  | v :: l, h => by
    obtain ⟨k, u, rfl⟩ := h v List.mem_cons_self
    obtain ⟨ss, h1, h2⟩ := strs_ofV l fun x hx => h x (List.mem_cons_of_mem _ hx)
    exact ⟨k :: ss, .cons k u h1, by rw [List.map_cons, h2]; rfl⟩
section
variable {P : Program} {w : World} {A : Around} {E : Value → Shared → Prop} {s : Shared} {a : Addr} {l : List Str}
theorem ts_sorted {Q : Value → Shared → Prop} (R : TSet w s.heap a l) (hh : A.handled = none)
    (hQ : ∀ s' p (out : Array Value) (c : Nat), (∀ b o, s.heap.get? b = some o → s'.heap.get? b = some o) → s'.gens = s.gens → s'.os = s.os → s.heap.objs.size ≤ p → s'.heap.get? p = some (seqObj "list" out c) → StrsAre out.toList (sortT l) → Q (.ref p) s') :
    wpAny (model P w) A (call (.builtin "sorted") [.ref a]) Q E s := by
  obtain ⟨o, es, ep, t, ho, hex, hd, T⟩ := R
  refine Calls.call_function_entry kind_sorted plain_sorted entry_sorted (args_sorted1 _) ?_
  unfold Builtin.«sorted»
  refine wpAny_bind (m := checkCount "sorted" 1 1 _) (wpAny_pure (wpAny_bind (L2.collect_set (A := A.in1) hh ⟨o, ho, hex.1, hd⟩ T.fit T.few T.ris T.led fun s1 vs k1 hz g1 o1 pm => ?_)))
  obtain ⟨ss, hS, es'⟩ := strs_ofV vs fun v hv => by
    obtain ⟨e, he, q⟩ := List.mem_map.mp (pm.mem_iff.mp hv)
    obtain ⟨k, u, rfl⟩ := T.good e he
    exact ⟨k, u, q.symm⟩
  have ps : ss.Perm l := by
    have q := pm.map fun v => keyT (0, v)
    rw [es', List.map_map] at q
    exact q.trans T.perm
  have hv : vs.length = l.length := by rw [pm.length_eq, List.length_map, Array.length_toList, T.size]
  have hL : vs.length ≤ sizeLine := by rw [hv, ← T.size]; exact fits_of_scanBound T.few
  refine wpAny_bind (wpAny_newList ?_ hL)
  have hoL : (s1.heap.push (seqObj "list" vs.toArray 0)).get? s1.heap.objs.size = some (seqObj "list" vs.toArray 0) := Heap.get?_push_size _ rfl
  refine wpAny_bind (wpAny_holding (wpAny_call_entry slot_list_sort ⟨_, hoL, rfl⟩ entry_list_sort (list_sort_treeKAny strKind_oneLt hoL hS.keysOf (fun v₁ v₂ rest e => keyKind_strs (by rw [← e]; exact hS)) hL fun st' hp hs => ⟨_, rfl, ?_⟩) (args_list_sort _)))
  obtain ⟨ys, h1, h2, h3⟩ := sorted_out_str hS hp hs
  obtain ⟨c, hc⟩ := sortedHeap_at (vs := vs) (out := (arrOf st').map (·.2)) hoL
  rw [sortT_of (h2.trans ps) h3] at h1
  refine wpAny_pure ⟨_, rfl, hQ _ s1.heap.objs.size _ c (fun b u e => ?_) g1 o1 hz hc h1⟩
  have q := k1 b u e
  have lt := Heap.lt_size q
  show (sortedHeap (s1.heap.push (seqObj "list" vs.toArray 0)) s1.heap.objs.size vs _).get? b = some u
  rw [sortedHeap_old (Nat.ne_of_lt lt) (by rw [size_push']; exact Nat.lt_succ_of_lt lt)]
  exact Heap.get?_push_of_some _ q
end
section
variable {X : Cx}
/-- sorted(found) -/
theorem cr_sortTS (hc : X.calm = true) : CallR X (.builtin "sorted") (fun vs H Q => ∃ (a : Addr) (l : List Str), vs = [V.ref a] ∧ H a = some (TSO X.w a l) ∧ ∀ p, H p = none → Q (.ref p) (upd H p (.lst ((sortT l).map V.str)))) := by
  intro pins s σ H vs us Q I r h
  obtain ⟨a, l, rfl, ha, q⟩ := h
  have R := tso_get I ha
  rw [Vals.ref1 r]
  have hl : l.length ≤ sizeLine := by
    obtain ⟨o, es, ep, t, ho, hex, hd, T⟩ := R
    rw [← T.size]; exact fits_of_scanBound T.few
  refine ts_sorted R (I.ok.hd hc) fun s' p out c k g o hp hg hi => ?_
  have hn : H p = none := I.hok.fresh hp
  have J : Inv X pins σ (upd H p (.lst ((sortT l).map V.str))) { s with heap := s'.heap, gens := s'.gens, drawn := s'.drawn, toks := s'.toks } :=
    I.call (ch := []) (Un.laid k hp hn) (I.hok.laid k hp ⟨by rw [List.length_map, sortT_len]; exact hl, out.toList, c, vals_of_strs hi, hg⟩) (by rw [g]; exact I.bare) (fun _ z => nomatch z)
  obtain ⟨h', g', d', t', os'⟩ := s'
  obtain ⟨h0, g0, d0, t0, os0⟩ := s
  cases (show os' = os0 from o)
  exact ⟨.ref p, _, J, rfl, q p hn⟩
/-- sorted(texts), any number -/
theorem cr_sortLS : CallR X (.builtin "sorted") (fun vs H Q => ∃ (a : Addr) (xs : List Str), vs = [V.ref a] ∧ SqL X.K H a (xs.map V.str) ∧ ∀ p, H p = none → Q (.ref p) (upd H p (.lst ((sortT xs).map V.str)))) := by
  intro pins s σ H vs us Q I r h
  obtain ⟨a, xs, rfl, hs, q⟩ := h
  obtain ⟨its, rv, hl, hlen⟩ := I.list hs
  rw [Vals.ref1 r]
  have l0 := rv.length
  rw [List.length_map] at l0 hlen
  refine PyProof.Rows.sorted_strsAny hl.isList rv.strs (by rw [← l0]; exact hlen) fun out ys h1 h2 h3 => ?_
  obtain ⟨ep, he'⟩ := PyProof.Rows.sortedAll_at s.heap its out
  rw [sortT_of h2 h3] at h1
  exact ⟨.ref _, upd H (s.heap.objs.size + 1) (.lst ((sortT xs).map V.str)), I.laid (t' := s.toks) (fun _ _ => PyProof.Rows.sortedAll_old) (Nat.le_succ _) ⟨by rw [List.length_map, sortT_len]; exact hlen, out.toList, ep, vals_of_strs h1, he'⟩, rfl, q _ (I.hok.fresh (Nat.le_succ _))⟩
end
end
/-! ### set(texts) -/
section
open PySem PySem.Spec PyProof.Rows
def setT (xs : List Str) : List Str := xs.foldl (fun l k => addT k l) []
theorem setT_go : ∀ (xs l : List Str), (∀ k, k ∈ xs.foldl (fun l k => addT k l) l ↔ k ∈ l ∨ k ∈ xs) ∧ (l.Nodup → (xs.foldl (fun l k => addT k l) l).Nodup) ∧ (xs.foldl (fun l k => addT k l) l).length ≤ l.length + xs.length
  | [], l => ⟨fun k => by simp, id, by simp⟩
  | x :: r, l => by
    obtain ⟨h1, h2, h3⟩ := setT_go r (addT x l)
    refine ⟨fun k => ?_, fun h => h2 (addT_nd h), ?_⟩
    · rw [List.foldl_cons, h1 k, addT_mem, List.mem_cons]
      constructor
      · rintro ((h | h) | h)
        · exact .inr (.inl h)
        · exact .inl h
        · exact .inr (.inr h)
      · rintro (h | h | h)
        · exact .inl (.inr h)
        · exact .inl (.inl h)
        · exact .inr h
    · rw [List.foldl_cons, List.length_cons]
      have := addT_len (k := x) (l := l)
      omega
theorem setT_mem {xs : List Str} {k : Str} : k ∈ setT xs ↔ k ∈ xs := by
  have := (setT_go xs []).1 k
  simpa [setT] using this
theorem setT_nd {xs : List Str} : (setT xs).Nodup := (setT_go xs []).2.1 List.nodup_nil
theorem setT_len {xs : List Str} : (setT xs).length ≤ xs.length := by
  have := (setT_go xs []).2.2
  simpa [setT] using this
theorem setT_take {xs : List Str} {i : Nat} {k : Str} (h : xs[i]? = some k) : setT (xs.take (i + 1)) = addT k (setT (xs.take i)) := by
  unfold setT
  rw [List.take_add_one, h, List.foldl_append]; rfl
theorem sortT_set {xs ys : List Str} (h : ∀ k, k ∈ xs ↔ k ∈ ys) : sortT (setT xs) = sortT (setT ys) := sortT_congr (nd_perm setT_nd setT_nd fun k => by rw [setT_mem, setT_mem]; exact h k)
/-- an empty set's object -/
abbrev set0 (w : World) : Obj := { cls := .type "set", dict := none, data := .set #[] 0 (.fresh 0 0 (!w.params.followText "set-order")) }
theorem TSet.first {w : World} {h : Heap} {a : Addr} (ho : h.get? a = some (set0 w)) : TSet w h a [] := by
  refine ⟨_, #[], 0, _, ho, ⟨rfl, rfl, rfl⟩, rfl, (fun e he => by simp at he), by simp, List.nodup_nil, by decide, by rfl, List.Pairwise.nil, ?_⟩
  show _ ∨ (!w.params.followText "set-order") = true
  cases w.params.followText "set-order" <;> simp
section
variable {P : Program} {w : World} {A : Around} {E : Value → Shared → Prop} {s : Shared}
theorem ts_update {I : Addr} {fp wr : List Addr} {G : Array GenState → Array GenState → Prop} {n : Nat} {Pv : Nat → Value → Prop} {St : Nat → Shared → Prop} {R : Result → Shared → Prop}
    (W : WalksS P w A.in1 I fp wr G n Pv St) (S : Addr) (hSf : S ∉ fp) (xs : List Str) (hn : n = xs.length) (hb : xs.length + 1 < scanBound) (hval : ∀ i v, Pv i v → ∃ k t, xs[i]? = some k ∧ v = .str k t) :
    ∀ (k i : Nat) (s : Shared), n - i = k → i ≤ n → St i s → TSet w s.heap S (setT (xs.take i)) → (∀ s', Moved (S :: wr) G s s' → TSet w s'.heap S (setT xs) → R (.ok (.ret .none)) s') →
      codeAny (model P w) A (.builtin "set.update.loop" ⟨[.ref S, .ref I], []⟩) R s := by
  have nw : S ∉ wr := fun h => hSf (W.sub _ h)
  have inc : ∀ b ∈ wr, b ∈ S :: wr := fun b hb => List.mem_cons_of_mem _ hb
  intro k
  induction k with
  | zero =>
    intro i s hk hi st hS hR
    obtain rfl : i = n := by omega
    refine codeAny_builtin F.entry_set_update_loop ?_
    rw [Around.under_plainId F.plain_set_update_loop _]
    show wpAny _ A.in1 (pyNext (.ref I) >>= _) _ _ s
    refine wpAny_bind (W.done s _ _ st fun s' hm => ?_)
    rw [List.take_of_length_le (by omega)] at hS
    exact wpAny_pure (hR s' (hm.mono inc) (hS.at fun o e => hm.heap S o nw e))
  | succ k ih =>
    intro i s hk hi st hS hR
    have lt : i < n := by omega
    refine codeAny_builtin F.entry_set_update_loop ?_
    rw [Around.under_plainId F.plain_set_update_loop _]
    show wpAny _ A.in1 (pyNext (.ref I) >>= _) _ _ s
    refine wpAny_bind (W.item i s _ _ lt st fun v s' hP st' hm => ?_)
    obtain ⟨z, t, hz, rfl⟩ := hval i v hP
    have hS' := hS.at (h' := s'.heap) fun o e => hm.heap S o nw e
    have hl : (setT (xs.take i)).length + 1 < scanBound := by
      have h1 := setT_len (xs := xs.take i)
      rw [List.length_take] at h1
      omega
    show wpAny _ A.in1 (holding [Value.str z t] (setAdd S (.str z t)) >>= _) _ _ s'
    refine wpAny_bind (wpAny_holding ?_)
    unfold setAdd
    refine wpAny_holding (wpAny_bind ((PySem.strKind P w).pyHash (k := z) (str_isS z t) (ts_addH (s := { s' with toks := s'.toks + 1 }) hS' hl fun h' b sb hS2 => ?_)))
    rw [← setT_take hz] at hS2
    refine wpAny_pure ⟨plainId_quiet F.plain_set_update_loop _, ih (i + 1) _ (by omega) lt (W.frame _ s' _ _ st' (Nat.le_succ _) fun b hb o e => ?_) hS2 fun s2 m2 q2 => ?_⟩
    · rw [sb.2 b (fun h : b = S => hSf (h ▸ hb))]; exact e
    · refine hR s2 (Moved.trans W.gtrans ((hm.mono inc).then_heap (Nat.le_succ _) fun b o hb e => ?_) m2) q2
      rw [sb.2 b (fun h : b = S => hb (h ▸ List.mem_cons_self))]; exact e
theorem strs_at : ∀ {vs : List Value} {xs : List Str}, StrsAre vs xs → ∀ {i : Nat} {v : Value}, vs[i]? = some v → ∃ k t, xs[i]? = some k ∧ v = .str k t
  | _, _, .nil, i, v, h => by simp at h
  | _, _, .cons y t r, i, v, h => by
    cases i with
    | zero =>
      cases h
      exact ⟨y, t, rfl, rfl⟩
    | succ i => exact strs_at r h
theorem strs_len : ∀ {vs : List Value} {xs : List Str}, StrsAre vs xs → vs.length = xs.length
  | _, _, .nil => rfl
  | _, _, .cons y t r => congrArg Nat.succ (strs_len r)
end
section
variable {X : Cx}
/-- len(found) -/
theorem cr_lenTS : CallR X (.builtin "len") (fun vs H Q => ∃ (a : Addr) (l : List Str), vs = [V.ref a] ∧ H a = some (TSO X.w a l) ∧ Q (.int (l.length : Int)) H) := by
  intro pins s σ H vs us Q I r h
  obtain ⟨a, l, rfl, ha, q⟩ := h
  rw [Vals.ref1 r]
  obtain ⟨o, es, ep, t, ho, hex, hd, T⟩ := tso_get I ha
  have hs := T.size
  have hf := T.few
  have h4 : scanBound = 4096 := rfl
  refine PySem.call_len_set ho hex hd T.fit (by omega) ⟨.int _, H, I.tok _, ?_, q⟩
  rw [hs]
  exact ⟨_, rfl⟩
end
end
section
open PySem PySem.Spec PyProof.Rows
section
variable {P : Program} {w : World} {A : Around} {E : Value → Shared → Prop} {s : Shared}
set_option maxHeartbeats 4000000 in
theorem ts_ofList {l : Addr} {items : Array Value} {xs : List Str} {Q : Value → Shared → Prop} (hh : A.handled = none) (hl : s.heap.IsList l items) (hi : StrsAre items.toList xs) (hb : xs.length + 1 < scanBound)
    (h : ∀ (h' : Heap) (tk : Nat), TSet w h' s.heap.objs.size (setT xs) → (∀ b o, s.heap.get? b = some o → h'.get? b = some o) → Q (.ref s.heap.objs.size) { s with heap := h', toks := tk }) : wpAny (model P w) A (call (.type "set") [.ref l]) Q E s := by
  have hz : items.size = xs.length := by
    have q := strs_len hi
    rwa [Array.length_toList] at q
  obtain ⟨c, tl, hmro⟩ := F.called_set.mro
  have hmade := F.called_set.made
  have hsub := F.called_set.sub
  refine wpAny_call (codeAny_of_tree ?_)
  show wpAny _ _ (callAny (.type "set") _) _ _ _
  refine wpAny_pure ⟨Code.quiet_builtin _ (by decide +kernel), codeAny_builtin F.entry_type_call ?_⟩
  rw [Around.under_plain (weight_type_call_type "set" [.ref l] []) rfl]
  have h1 := F.called_set.notType
  have h2 := F.called_set.canCreate
  have hct := F.typeCall_set_1 (.ref l)
  repeat (any_goals (first | assumption | wp_step))
  refine codeAny_mono (L2.code_set_led1 (.ref l) (E := E) (Q₁ := fun obj z => obj = .ref s.heap.objs.size ∧ z = { s with heap := s.heap.push (set0 w) }) ⟨rfl, rfl⟩) fun r s1 hr => ?_
  cases r with
  | error e => exact hr
  | ok fl =>
    cases fl with
    | ret obj =>
      obtain ⟨rfl, rfl⟩ := hr
      have hS : (s.heap.push (set0 w)).get? s.heap.objs.size = some (set0 w) := Heap.get?_push_size _ rfl
      have hT : Shared.TypeIs { s with heap := s.heap.push (set0 w) } (.ref s.heap.objs.size) "set" := ⟨_, hS, rfl⟩
      have hli := F.called_set.init.lookup
      have hbi := F.called_set.init.bind (.ref s.heap.objs.size)
      repeat (any_goals (first | assumption | wp_step))
      refine codeAny_mono (codeAny_call_builtin (R := wants (fun r z => r = .none ∧ ∃ h' tk, z = { s with heap := h', toks := tk } ∧ TSet w h' s.heap.objs.size (setT xs) ∧ ∀ b o, s.heap.get? b = some o → h'.get? b = some o) E) F.called_set.init.plain F.entry_set_init (check_set_init_1 hT ?_)) fun r2 s2 hr2 => ?_
      · obtain ⟨ol, hol, hcl, nl, hdl⟩ := hl
        obtain ⟨oc, od, oda, os⟩ := ol
        simp only at hcl hdl
        subst hcl hdl
        have ho' : (s.heap.push (set0 w)).get? l = some { cls := .type "list", dict := od, data := .seq items nl, slots := os } := Heap.get?_push_of_some _ hol
        have hsls := F.sub_list_set
        have hslf := F.sub_list_frozenset
        have hne : (Value.type "list" == Value.type "dict") = false := by decide
        have hl1 : (s.heap.push (set0 w)).IsList l items := ⟨_, ho', rfl, nl, rfl⟩
        unfold Builtin.«set.__init__» noKeywords Builtin.Frozenset.updateFrom
        generalize hPI : pyIter = PI
        wp_walk
        subst hPI
        refine wpAny_pyIter_list hl1 (wpAny_bind (wpAny_runValue ?_))
        have hlS : l < s.heap.objs.size := Heap.lt_size hol
        have h3 : A.in1.in1.in1.handled = none := by simp [hh]
        have sz : (s.heap.push (set0 w)).objs.size = s.heap.objs.size + 1 := Heap.size_push ..
        refine ts_update ((Walks.list h3 _ l (by rw [sz]; exact Nat.ne_of_lt (Nat.lt_succ_of_lt hlS)) items).toS) s.heap.objs.size ?_ xs hz hb (fun i v hv => strs_at hi (by rw [Array.getElem?_toList]; exact hv)) (items.size - 0) 0 _ (by omega) (Nat.zero_le _)
          ⟨⟨_, Heap.get?_push_size _ rfl, rfl, rfl⟩, hl1.push _⟩ (TSet.first (Heap.get?_push_of_some _ hS)) fun s' hm hS' => ?_
        · rw [sz]
          simp only [List.mem_cons, List.not_mem_nil, or_false, not_or]
          exact ⟨Nat.ne_of_lt (Nat.lt_succ_self _), Nat.ne_of_gt hlS⟩
        · obtain ⟨h', g2, d', tk', os'⟩ := s'
          have eg : g2 = s.gens := hm.gens
          have ed : d' = s.drawn := hm.drawn
          have eo : os' = s.os := hm.os
          subst eg ed eo
          show wpAny _ _ _ _ _ _
          refine wpAny_pure ?_
          show wpAny _ _ (ret Value.none) _ _ _
          refine wpAny_pure ⟨rfl, h', tk', rfl, hS', fun b o e => ?_⟩
          have b0 := Heap.lt_size e
          refine hm.heap b o ?_ (Heap.get?_push_of_some _ (Heap.get?_push_of_some _ e))
          rw [sz]
          simp only [List.mem_cons, List.not_mem_nil, or_false, not_or]
          exact ⟨Nat.ne_of_lt b0, Nat.ne_of_lt (Nat.lt_succ_of_lt b0)⟩
      · cases r2 with
        | error e => exact hr2
        | ok fl2 =>
          cases fl2 with
          | ret r =>
            obtain ⟨rfl, h', tk, rfl, hS', hk'⟩ := hr2
            repeat (any_goals (first | assumption | wp_step))
            exact h _ _ hS' hk'
          | _ => exact hr2.elim
    | _ => exact hr.elim
end
section
variable {X : Cx}
/-- set(xs), xs a list of texts -/
theorem cr_setTSL (hc : X.calm = true) : CallR X (.type "set") (fun vs H Q => ∃ (p : Addr) (xs : List Str), vs = [V.ref p] ∧ SqL X.K H p (xs.map V.str) ∧ xs.length + 1 < scanBound ∧ ∀ q, H q = none → Q (.ref q) (upd H q (TSO X.w q (setT xs)))) := by
  intro pins s σ H vs us Q I r h
  obtain ⟨p, xs, rfl, hs, hb, q⟩ := h
  rw [Vals.ref1 r]
  obtain ⟨its, rv, hl, _⟩ := I.list hs
  refine ts_ofList (I.ok.hd hc) hl.isList (xs := xs) (by simpa using rv.strs) hb fun h' tk R k => ?_
  exact ⟨.ref _, upd H s.heap.objs.size (TSO X.w s.heap.objs.size (setT xs)), I.laid (t' := tk) k (Nat.le_refl _) (tso_new R), rfl, q _ (I.hok.fresh (Nat.le_refl _))⟩
end
end
section
open PySem PySem.Spec PyProof.Rows
section
variable {P : Program} {w : World} {A : Around} {E : Value → Shared → Prop} {s : Shared}
set_option maxHeartbeats 4000000 in
theorem ts_ofTuple {l : Addr} {items : Array Value} {xs : List Str} {Q : Value → Shared → Prop} (hh : A.handled = none) (hl : s.heap.IsTuple l items) (hi : StrsAre items.toList xs) (hb : xs.length + 1 < scanBound)
    (h : ∀ (h' : Heap) (tk : Nat), TSet w h' s.heap.objs.size (setT xs) → (∀ b o, s.heap.get? b = some o → h'.get? b = some o) → Q (.ref s.heap.objs.size) { s with heap := h', toks := tk }) : wpAny (model P w) A (call (.type "set") [.ref l]) Q E s := by
  have hz : items.size = xs.length := by
    have q := strs_len hi
    rwa [Array.length_toList] at q
  obtain ⟨c, tl, hmro⟩ := F.called_set.mro
  have hmade := F.called_set.made
  have hsub := F.called_set.sub
  refine wpAny_call (codeAny_of_tree ?_)
  show wpAny _ _ (callAny (.type "set") _) _ _ _
  refine wpAny_pure ⟨Code.quiet_builtin _ (by decide +kernel), codeAny_builtin F.entry_type_call ?_⟩
  rw [Around.under_plain (weight_type_call_type "set" [.ref l] []) rfl]
  have h1 := F.called_set.notType
  have h2 := F.called_set.canCreate
  have hct := F.typeCall_set_1 (.ref l)
  repeat (any_goals (first | assumption | wp_step))
  refine codeAny_mono (L2.code_set_led1 (.ref l) (E := E) (Q₁ := fun obj z => obj = .ref s.heap.objs.size ∧ z = { s with heap := s.heap.push (set0 w) }) ⟨rfl, rfl⟩) fun r s1 hr => ?_
  cases r with
  | error e => exact hr
  | ok fl =>
    cases fl with
    | ret obj =>
      obtain ⟨rfl, rfl⟩ := hr
      have hS : (s.heap.push (set0 w)).get? s.heap.objs.size = some (set0 w) := Heap.get?_push_size _ rfl
      have hT : Shared.TypeIs { s with heap := s.heap.push (set0 w) } (.ref s.heap.objs.size) "set" := ⟨_, hS, rfl⟩
      have hli := F.called_set.init.lookup
      have hbi := F.called_set.init.bind (.ref s.heap.objs.size)
      repeat (any_goals (first | assumption | wp_step))
      refine codeAny_mono (codeAny_call_builtin (R := wants (fun r z => r = .none ∧ ∃ h' tk, z = { s with heap := h', toks := tk } ∧ TSet w h' s.heap.objs.size (setT xs) ∧ ∀ b o, s.heap.get? b = some o → h'.get? b = some o) E) F.called_set.init.plain F.entry_set_init (check_set_init_1 hT ?_)) fun r2 s2 hr2 => ?_
      · obtain ⟨ol, hol, hcl, nl, hdl⟩ := hl
        obtain ⟨oc, od, oda, os⟩ := ol
        simp only at hcl hdl
        subst hcl hdl
        have ho' : (s.heap.push (set0 w)).get? l = some { cls := .type "tuple", dict := od, data := .seq items nl, slots := os } := Heap.get?_push_of_some _ hol
        have hsls := F.sub_tuple_set
        have hslf := F.sub_tuple_frozenset
        have hne : (Value.type "tuple" == Value.type "dict") = false := by decide
        have hl1 : (s.heap.push (set0 w)).IsTuple l items := ⟨_, ho', rfl, nl, rfl⟩
        unfold Builtin.«set.__init__» noKeywords Builtin.Frozenset.updateFrom
        generalize hPI : pyIter = PI
        wp_walk
        subst hPI
        refine wpAny_pyIter_tuple hl1 (wpAny_bind (wpAny_runValue ?_))
        have hlS : l < s.heap.objs.size := Heap.lt_size hol
        have h3 : A.in1.in1.in1.handled = none := by simp [hh]
        have sz : (s.heap.push (set0 w)).objs.size = s.heap.objs.size + 1 := Heap.size_push ..
        refine ts_update ((Walks.tuple h3 _ l (by rw [sz]; exact Nat.ne_of_lt (Nat.lt_succ_of_lt hlS)) items).toS) s.heap.objs.size ?_ xs hz hb (fun i v hv => strs_at hi (by rw [Array.getElem?_toList]; exact hv)) (items.size - 0) 0 _ (by omega) (Nat.zero_le _)
          ⟨⟨_, Heap.get?_push_size _ rfl, rfl, rfl⟩, hl1.push _⟩ (TSet.first (Heap.get?_push_of_some _ hS)) fun s' hm hS' => ?_
        · rw [sz]
          simp only [List.mem_cons, List.not_mem_nil, or_false, not_or]
          exact ⟨Nat.ne_of_lt (Nat.lt_succ_self _), Nat.ne_of_gt hlS⟩
        · obtain ⟨h', g2, d', tk', os'⟩ := s'
          have eg : g2 = s.gens := hm.gens
          have ed : d' = s.drawn := hm.drawn
          have eo : os' = s.os := hm.os
          subst eg ed eo
          show wpAny _ _ _ _ _ _
          refine wpAny_pure ?_
          show wpAny _ _ (ret Value.none) _ _ _
          refine wpAny_pure ⟨rfl, h', tk', rfl, hS', fun b o e => ?_⟩
          have b0 := Heap.lt_size e
          refine hm.heap b o ?_ (Heap.get?_push_of_some _ (Heap.get?_push_of_some _ e))
          rw [sz]
          simp only [List.mem_cons, List.not_mem_nil, or_false, not_or]
          exact ⟨Nat.ne_of_lt b0, Nat.ne_of_lt (Nat.lt_succ_of_lt b0)⟩
      · cases r2 with
        | error e => exact hr2
        | ok fl2 =>
          cases fl2 with
          | ret r =>
            obtain ⟨rfl, h', tk, rfl, hS', hk'⟩ := hr2
            repeat (any_goals (first | assumption | wp_step))
            exact h _ _ hS' hk'
          | _ => exact hr2.elim
    | _ => exact hr.elim
end
section
variable {X : Cx}
/-- set(xs), xs a tuple of texts -/
theorem cr_setTST (hc : X.calm = true) : CallR X (.type "set") (fun vs H Q => ∃ (p : Addr) (xs : List Str), vs = [V.ref p] ∧ SqT X.K H p (xs.map V.str) ∧ xs.length + 1 < scanBound ∧ ∀ q, H q = none → Q (.ref q) (upd H q (TSO X.w q (setT xs)))) := by
  intro pins s σ H vs us Q I r h
  obtain ⟨p, xs, rfl, hs, hb, q⟩ := h
  rw [Vals.ref1 r]
  obtain ⟨its, rv, hl, _⟩ := I.tuple hs
  refine ts_ofTuple (I.ok.hd hc) hl (xs := xs) (by simpa using rv.strs) hb fun h' tk R k => ?_
  exact ⟨.ref _, upd H s.heap.objs.size (TSO X.w s.heap.objs.size (setT xs)), I.laid (t' := tk) k (Nat.le_refl _) (tso_new R), rfl, q _ (I.hok.fresh (Nat.le_refl _))⟩
end
end
/-! ### own classes: o[i], o[i] = v, x in o -/
section
open PySem PySem.Spec PyProof.Rows
variable {X : Cx} {CX : CXT} {k : Nat} {C f a dx : Addr} {fs : List (Str × V)} {fd : FuncData} {ps : List Str} {sp : Sp} {E : L2.St → XK} {pins : List (Addr × Obj)} {σ : L2.St} {H : Hp} {s : Shared}
theorem own_at (I : Inv X pins σ H s) (ea : H a = some (.ins C dx fs)) : ∃ od, PySem.W.InstAt s.heap a (PySem.W.instObj C dx) C (some od) := by
  obtain ⟨mA, O, _⟩ := ins_get I.hok ea
  obtain ⟨od, J, _⟩ := O.look
  exact ⟨od, J⟩
/-- a method of the class, called below the place -/
theorem run_in1 {us : List Value} {vs : List V} {Q : VK} (F : FnOk X.prog X.w X.K X.mg X.base CX k f fd ps sp) (hr : Room (k + 1) X.A) (hb : L2.Binds X.K fd ps []) (hx : PassesAt CX X σ (E σ)) (I : Inv X pins σ H s) (r : Vals vs us) (h : sp vs H Q (E σ)) :
    wpAny (model X.prog X.w) X.A.in1 (call (.ref f) us) (EP X pins σ Q) X.xe s := by
  have hl : (us ++ []).length = ps.length := by rw [List.append_nil, ← r.length]; exact F.len _ _ _ _ h
  have b := hb s us I.kIn hl
  rw [List.append_nil] at b
  refine wpAny_call (codeAny_mono (F.run X.A.in1 X.stack s H ⟨us, []⟩ us vs Q (E σ) hr.in1 I.env0.in1 b r h) fun q s' hq => ?_)
  match q, hq with
  | .error e, hq => exact hx pins H s e s' I hq
  | .ok (.ret u), hq => exact I.after hq
  | .ok .next, hq => exact hq.elim
  | .ok .brk, hq => exact hq.elim
  | .ok .cont, hq => exact hq.elim
theorem run_here {us : List Value} {vs : List V} {Q : VK} (F : FnOk X.prog X.w X.K X.mg X.base CX k f fd ps sp) (hr : Room k X.A) (hb : L2.Binds X.K fd ps []) (hx : PassesAt CX X σ (E σ)) (I : Inv X pins σ H s) (r : Vals vs us) (h : sp vs H Q (E σ)) :
    wpAny (model X.prog X.w) X.A (call (.ref f) us) (EP X pins σ Q) X.xe s := by
  have e0 : vs ++ ([] : List V) = vs := List.append_nil vs
  exact run_fnSD (dvs := []) F hr hb .nil hx I r (e0.symm ▸ h)
def tGetO (C : Addr) (sp : Sp) (E : L2.St → XK) (ta tb : TE) : TE := fun σ H Q => ta σ H fun x H1 => tb σ H1 fun y H2 => ∃ a dx fs, x = .ref a ∧ H2 a = some (.ins C dx fs) ∧ sp [.ref a, y] H2 Q (E σ)
theorem pe_getO {o i : Expr} {ta tb : TE} {pos : Pos} (ho : PE X o ta) (hi : PE X i tb) (hm : Meth X.K C "__getitem__" f) (hfn : PySem.W.fnIn X.K f = true) (F : FnOk X.prog X.w X.K X.mg X.base CX k f fd ps sp) (hr : Room (k + 1) X.A) (hb : L2.Binds X.K fd ps []) (hx : ∀ σ, PassesAt CX X σ (E σ))
    (hsl : ∀ v u, subscripted i true v u = runValue (.builtin "lifetime.subscript" ⟨[v, u], []⟩) := by intro _ _; with_unfolding_all rfl) : PE X (.Subscript o i pos) (tGetO C sp E ta tb) := by
  refine ⟨fun pins s σ H Q I h => ?_⟩
  refine Subscript_ (binT ho hi I h fun v u s2 x y H2 I2 rx ry q => ?_)
  obtain ⟨a, dx, fs, rfl, ea, q⟩ := q
  cases (show v = Value.ref a from rx)
  obtain ⟨od, J⟩ := own_at I2 ea
  have fi := hm.fn
  unfold PySem.W.fnIn at hfn
  split at hfn
  · rename_i e
    unfold subscriptTail getitemInPython
    refine wpAny_bind (wpAny_bind (wpAny_bind (J.type.here ((PySem.W.looks_findIn I2.kIn hm.at_).here ?_))))
    dsimp only
    refine wpAny_bind (wpAny_load (I2.kIn _ _ e) (wpAny_pure ?_))
    dsimp only
    rw [hsl]
    refine wpAny_bind (wpAny_runValue (codeAny_builtin PySem.W.entry_sub ?_))
    unfold Builtin.«lifetime.subscript»
    refine wpAny_bind (PySem.W.special_fn I2.kIn J hm.at_ (beq_iff_eq.mp fi) (wpAny_mono (run_in1 F hr hb (hx σ) I2 (vs := [.ref a, y]) (.cons rfl (.cons ry .nil)) q) (fun z s3 hz => wpAny_pure ?_) fun _ _ z => z))
    show wpAny (model X.prog X.w) X.A (letTemporaryGo o (.ref a) z >>= fun _ => pure z) _ _ s3
    exact wpAny_bind (wpAny_letTemporaryGo (wpAny_pure hz))
  · cases hfn
def gSetO (C : Addr) (sp : Sp) (E : L2.St → XK) (to ti : TE) : TG := fun v σ H Q => to σ H fun o H1 => ti σ H1 fun i H2 => ∃ a dx fs, o = .ref a ∧ H2 a = some (.ins C dx fs) ∧ sp [.ref a, i, v] H2 (fun _ H3 => Q σ H3) (E σ)
theorem pg_setO {o i : Expr} {to ti : TE} {pos : Pos} (ho : PE X o to) (hi : PE X i ti) (hm : Meth X.K C "__setitem__" f) (hq : PySem.W.noSeq X.K C = true) (F : FnOk X.prog X.w X.K X.mg X.base CX k f fd ps sp) (hr : Room k X.A) (hb : L2.Binds X.K fd ps []) (hx : ∀ σ, PassesAt CX X σ (E σ))
    (ha : ∀ v, assign (.Subscript o i pos) X.env v = (do
      let ov ← holding [v] (eval o X.env)
      let iv ← holding [v, ov] (eval i X.env)
      standAt pos
      holding [v, ov, iv] (setItem ov iv v)
      release [v, ov, iv] []) := by intro _; rfl) : PG X (.Subscript o i pos) (gSetO C sp E to ti) := by
  refine ⟨fun pins s σ H v u Q I r h => ?_⟩
  rw [ha]
  refine wpAny_bind (wpAny_holding (thn (ho.run pins s σ H _ I h) fun ov s1 ⟨x, H1, I1, r1, q1⟩ => wpAny_bind (wpAny_holding (thn (hi.run pins s1 σ H1 _ I1 q1) fun iv s2 ⟨y, H2, I2, r2, a, dx, fs, ex, ea, q2⟩ => ?_))))
  subst ex
  cases (show ov = Value.ref a from r1)
  obtain ⟨od, J⟩ := own_at I2 ea
  refine wpAny_bind (wpAny_standAt (wpAny_bind (wpAny_holding ?_)))
  unfold setItem sequenceKey
  refine wpAny_holding (wpAny_bind (wpAny_bind (J.type.here (wpAny_bind ((PySem.W.anyM_none I2.kIn hq).here ?_)))))
  rw [if_pos (show (!false) = true from rfl)]
  refine wpAny_pure (wpAny_bind (PySem.W.special_fn I2.kIn J hm.at_ (beq_iff_eq.mp hm.fn) (wpAny_mono (run_here F hr hb (hx σ) I2 (vs := [.ref a, y, v]) (.cons rfl (.cons r2 (.cons r .nil))) q2) (fun z s3 hz => wpAny_pure ?_) fun _ _ z => z)))
  obtain ⟨_, H3, I3, _, q3⟩ := hz
  exact wpAny_release ⟨σ, H3, I3, q3⟩
/-- x in o; x not in o: __contains__ gives a truth value -/
def rInO (C : Addr) (neg : Bool) (sp : Sp) : R2 := fun x y H Q => ∃ a dx fs, y = .ref a ∧ H a = some (.ins C dx fs) ∧ sp [.ref a, x] H (fun v H' => ∃ b, v = .bl b ∧ Q (.bl (if neg = true then !b else b)) H') E0
theorem has_own {Q : Bool → Shared → Prop} {x : V} {v : Value} (I : Inv X pins σ H s) (rx : RelV x v) (ea : H a = some (.ins C dx fs)) (hm : Meth X.K C "__contains__" f) (F : FnOk X.prog X.w X.K X.mg X.base CX0 k f fd ps sp) (hr : Room k X.A) (hb : L2.Binds X.K fd ps []) {Qb : Bool → Hp → Prop}
    (h : sp [.ref a, x] H (fun v H' => ∃ b, v = .bl b ∧ Qb b H') E0) (hQ : ∀ b s' H', Inv X pins σ H' s' → Qb b H' → Q b s') : wpAny (model X.prog X.w) X.A (contains (.ref a) v) Q X.xe s := by
  obtain ⟨od, J⟩ := own_at I ea
  unfold contains
  refine wpAny_holding (wpAny_bind (wpAny_bind (J.type.here ((PySem.W.looks_findIn I.kIn hm.at_).here ?_))))
  rw [if_neg (by simp)]
  refine wpAny_bind (PySem.W.unlessNone_K I.kIn J hm.at_ hm.fn (wpAny_mono (run_here (E := fun _ => E0) F hr hb (fun _ _ _ _ _ _ z => z.elim) I (vs := [.ref a, x]) (.cons rfl (.cons rx .nil)) h) (fun z s3 hz => ?_) fun _ _ z => z))
  obtain ⟨w, H3, I3, rw', b, rfl, q⟩ := hz
  cases (show z = Value.bool b from rw')
  exact wpAny_truthy_bool (hQ b s3 H3 I3 q)
theorem op_inO (hm : Meth X.K C "__contains__" f) (F : FnOk X.prog X.w X.K X.mg X.base CX0 k f fd ps sp) (hr : Room k X.A) (hb : L2.Binds X.K fd ps []) : OpR X (compareOp .In) (rInO C false sp) := by
  intro pins s σ H x y v u Q I rx ry h
  obtain ⟨a, dx, fs, rfl, ea, q⟩ := h
  cases (show u = Value.ref a from ry)
  exact wpAny_bind (has_own I rx ea hm F hr hb (Qb := fun b H' => Q (.bl b) H') q fun b s' H' I' q' => wpAny_pure ⟨.bl b, H', I', rfl, q'⟩)
theorem op_notInO (hm : Meth X.K C "__contains__" f) (F : FnOk X.prog X.w X.K X.mg X.base CX0 k f fd ps sp) (hr : Room k X.A) (hb : L2.Binds X.K fd ps []) : OpR X (compareOp .NotIn) (rInO C true sp) := by
  intro pins s σ H x y v u Q I rx ry h
  obtain ⟨a, dx, fs, rfl, ea, q⟩ := h
  cases (show u = Value.ref a from ry)
  exact wpAny_bind (has_own I rx ea hm F hr hb (Qb := fun b H' => Q (.bl (!b)) H') q fun b s' H' I' q' => wpAny_pure ⟨.bl (!b), H', I', rfl, q'⟩)
theorem passL0 {X : Cx} {σ : L2.St} : PassesAt (L2.CX X.prog X.w) X σ E0 := fun pins H s e s' I c => passL pins σ H s e s' I c
end
/-! ### rules within a comprehension: the text's K by name -/
section
variable {X : Cx} {K : PySem.W.Frag}
theorem pe_fldK {o : Expr} {f : Str} {pos : Pos} {ta : TE} (hK : X.K = K) (ho : PE X o ta) (hab : attributeBase o f X.env (eval o X.env) = eval o X.env) : PE X (.Attribute o f pos) (tFld K ta f) := hK ▸ pe_fld ho hab
theorem op_inK (hK : X.K = K) : OpR X (compareOp .In) (rIn K false) := hK ▸ op_in_seq
theorem op_notInK (hK : X.K = K) : OpR X (compareOp .NotIn) (rIn K true) := hK ▸ op_notIn_seq
theorem ix_listK (hK : X.K = K) : IxR X (rIxL K) := hK ▸ ix_list
theorem ix_tupK (hK : X.K = K) : IxR X (rIxT K) := hK ▸ ix_tup
theorem op_eqDK (hK : X.K = K) (hu : X.A.units + 64 < cLine) : OpR X (compareOp .Eq) (rEqD K) := hK ▸ op_eqD hu
theorem op_neDK (hK : X.K = K) (hu : X.A.units + 64 < cLine) : OpR X (compareOp .NotEq) (rNeD K) := hK ▸ op_neD hu
end
/-! ### staticmethods by a promise on positional values -/
section
variable {X : Cx} {CX : CXT} {k : Nat} {C p f : Addr} {mc : Value} {sp : Sp} {E : XK} {o e : Expr} {es : List Expr} {m : Str} {pos apos : Pos} {ta : TE} {t : TA} {pl : Sem Bool}
def tSMethR (C : Addr) (sp : Sp) (E : XK) (ta : TE) (t : TA) : TE := fun σ H Q => ta σ H fun x H1 => x = .ref C ∧ t σ H1 fun vs H2 => sp vs H2 Q E
theorem pe_smethR (he : PE X o ta) (r : ClX.CRead X.K C mc) (c : SMet X.K C mc m p f) (F : FnR X.prog X.w X.K X.mg X.base CX k f sp) (hr : Room k X.A) (hk : PySem.W.keepIn X.K (.ref f) = true) (hx : Passes CX X E) (ha : PA X (e :: es) t)
    (hst : starEach (e :: es) X.env = (false, eval e X.env) :: starEach es X.env := by rfl) (hpl : (backTo pos (starEach es X.env)).any (·.1) = false := by rfl)
    (ht : eval (.Call (.Attribute o m apos) (e :: es) [] pos) X.env = (do
      let ov ← eval o X.env
      standAt apos.atName
      let (f, first) ← holding [ov] (getMethod ov m pl)
      callWith pos f first (backTo pos (starEach (e :: es) X.env)) (backToKw pos (keywordEach [] X.env))) := by rfl) :
    PE X (.Call (.Attribute o m apos) (e :: es) [] pos) (tSMethR C sp E ta t) := by
  refine ⟨fun pins s σ H Q I h => ?_⟩
  refine PySem.W.methodCall_KW (pl := pl) (thn (he.run pins s σ H _ I h) fun u s1 ⟨x, H1, I1, rx, ex, q⟩ => ?_) ht
  subst ex
  obtain rfl : u = Value.ref C := rx
  obtain ⟨rest, hp⟩ := c.rc
  refine PySem.W.method_cls I1.kIn r.ga (PySem.W.cls_bind I1.kIn r.rd c.at_ ?_)
  refine wpAny_call (PySem.W.sm_get (s := { s1 with toks := s1.toks + 1 }) I1.kIn hp (PySem.W.handed_on rfl ?_))
  have I2 := I1.tok (s1.toks + 1)
  refine PySem.W.callWith_K (h₀ := X.base) (first := []) I2.ok.mod.kin hk (thn (ha.run pos pins _ σ H1 _ I2 q) fun us s3 ⟨vs, H2, I3, rv, q2⟩ => ⟨I3.kIn, ?_⟩) hst hpl
  exact wpAny_call (run_fnR F hr hx I3 rv q2)
theorem pe_smethR0 (he : PE X o ta) (r : ClX.CRead X.K C mc) (c : SMet X.K C mc m p f) (F : FnR X.prog X.w X.K X.mg X.base CX k f sp) (hr : Room k X.A) (hk : PySem.W.keepIn X.K (.ref f) = true) (hx : Passes CX X E)
    (ht : eval (.Call (.Attribute o m apos) [] [] pos) X.env = (do
      let ov ← eval o X.env
      standAt apos.atName
      let (f, first) ← holding [ov] (getMethod ov m pl)
      callWith pos f first (backTo pos (starEach [] X.env)) (backToKw pos (keywordEach [] X.env))) := by rfl) :
    PE X (.Call (.Attribute o m apos) [] [] pos) (tSMethR C sp E ta tNil) := by
  refine ⟨fun pins s σ H Q I h => ?_⟩
  refine PySem.W.methodCall_KW (pl := pl) (thn (he.run pins s σ H _ I h) fun u s1 ⟨x, H1, I1, rx, ex, q⟩ => ?_) ht
  subst ex
  obtain rfl : u = Value.ref C := rx
  obtain ⟨rest, hp⟩ := c.rc
  refine PySem.W.method_cls I1.kIn r.ga (PySem.W.cls_bind I1.kIn r.rd c.at_ ?_)
  refine wpAny_call (PySem.W.sm_get (s := { s1 with toks := s1.toks + 1 }) I1.kIn hp (PySem.W.handed_on rfl ?_))
  have I2 := I1.tok (s1.toks + 1)
  exact PySem.W.callWith_K0 (first := []) I2.kIn hk (wpAny_call (run_fnR (us := []) (vs := []) F hr hx I2 .nil q))
end
/-! ### own operators -/
section
open PySem PySem.Spec PyProof.Rows
variable {X : Cx} {CX : CXT} {k : Nat} {C f : Addr} {fd : FuncData} {ps : List Str} {sp : Sp} {E : XK}
/-- x op y, both instances of C; what comes back is an object -/
def rOwn (C : Addr) (sp : Sp) (E : XK) : R2 := fun x y H Q => ∃ p q dx dy fs gs, x = .ref p ∧ y = .ref q ∧ H p = some (.ins C dx fs) ∧ H q = some (.ins C dy gs) ∧ sp [.ref p, .ref q] H (fun v H' => (∃ r, v = .ref r) ∧ Q v H') E
theorem op_own {op : Operator} (hs : PySem.W.findIn X.K (.ref C) (PySem.dunder op.info.2) = some (some (.ref f))) (hf : PySem.W.isFn X.K (.ref f) = true) (hc : PySem.W.selfFirst X.K C = true) (F : FnOk X.prog X.w X.K X.mg X.base CX k f fd ps sp) (hr : Room k X.A) (hb : L2.Binds X.K fd ps []) (hx : Passes CX X E) : OpR X (binaryOp op) (rOwn C sp E) := by
  intro pins s σ H x y v u Q I rx ry h
  obtain ⟨p, q, dx, dy, fs, gs, rfl, rfl, hp, hq, h⟩ := h
  cases (show v = Value.ref p from rx)
  cases (show u = Value.ref q from ry)
  obtain ⟨od, J⟩ := own_at I hp
  obtain ⟨od', J'⟩ := own_at I hq
  obtain ⟨m, hF⟩ := I.fr
  refine PySem.W.binop_K hF I.ok.mod.kin J J'.type hc hs hf ?_
  refine wpAny_mono (run_fn (us := [.ref p, .ref q]) (vs := [.ref p, .ref q]) (dvs := []) F hr hb .nil hx I (.cons rfl (.cons rfl .nil)) h) (fun z s' hz => ?_) fun _ _ e => e
  obtain ⟨w', H', I', rw', ⟨r, er⟩, q'⟩ := hz
  subst er
  cases (show z = Value.ref r from rw')
  exact ⟨.ref r, H', I', rfl, q'⟩
/-- ~x -/
def rUOwn (C : Addr) (sp : Sp) (E : XK) : V → Hp → VK → Prop := fun x H Q => ∃ p dx fs, x = .ref p ∧ H p = some (.ins C dx fs) ∧ sp [.ref p] H Q E
theorem un_own (hs : PySem.W.findIn X.K (.ref C) "__invert__" = some (some (.ref f))) (hf : PySem.W.isFn X.K (.ref f) = true) (F : FnOk X.prog X.w X.K X.mg X.base CX k f fd ps sp) (hr : Room k X.A) (hb : L2.Binds X.K fd ps []) (hx : Passes CX X E) : UnR X (unaryOp .Invert) (rUOwn C sp E) := by
  intro pins s σ H x v Q I rx h
  obtain ⟨p, dx, fs, rfl, hp, h⟩ := h
  cases (show v = Value.ref p from rx)
  obtain ⟨od, J⟩ := own_at I hp
  obtain ⟨m, hF⟩ := I.fr
  refine PySem.W.ksp_inv hF I.ok.mod.kin J hs hf ?_
  exact run_fn (us := [.ref p]) (vs := [.ref p]) (dvs := []) F hr hb .nil hx I (.cons rfl .nil) h
end
section
open PySem PySem.Spec PyProof.Rows PpSet
/-! ### set(list of truth values), its len -/
def memB (xs : List Bool) : Bool → Bool := fun b => decide (b ∈ xs)
def cntB (xs : List Bool) : Nat := (if memB xs true = true then 1 else 0) + (if memB xs false = true then 1 else 0)
theorem memB_take {xs : List Bool} {i : Nat} {z : Bool} (h : xs[i]? = some z) (j : Bool) : memB (xs.take (i + 1)) j = (memB (xs.take i) j || decide (j = z)) := by
  unfold memB
  rw [List.take_add_one, h, ← Bool.decide_or]
  apply decide_eq_decide.mpr
  rw [List.mem_append]
  simp
theorem cntB_take {xs : List Bool} {i : Nat} {z : Bool} (h : xs[i]? = some z) : cntB (xs.take (i + 1)) = if memB (xs.take i) z = true then cntB (xs.take i) else cntB (xs.take i) + 1 := by
  unfold cntB
  rw [memB_take h, memB_take h]
  cases z <;> cases memB (xs.take i) true <;> cases memB (xs.take i) false <;> rfl
theorem cntB_le {xs : List Bool} : cntB xs ≤ 2 := by
  unfold cntB
  split <;> split <;> omega
section
variable {P : Program} {w : World} {A : Around} {E : Value → Shared → Prop} {s : Shared}
theorem bs_update {I : Addr} {fp wr : List Addr} {G : Array GenState → Array GenState → Prop} {n : Nat} {Pv : Nat → Value → Prop} {St : Nat → Shared → Prop} {R : Result → Shared → Prop}
    (W : WalksS P w A.in1 I fp wr G n Pv St) (S : Addr) (hSf : S ∉ fp) (xs : List Bool) (hn : n = xs.length) (hval : ∀ i v, Pv i v → ∃ k, xs[i]? = some k ∧ v = .bool k) :
    ∀ (k i : Nat) (s : Shared), n - i = k → i ≤ n → St i s → SetB w s.heap S (memB (xs.take i)) (cntB (xs.take i)) → (∀ s', Moved (S :: wr) G s s' → SetB w s'.heap S (memB xs) (cntB xs) → R (.ok (.ret .none)) s') →
      codeAny (model P w) A (.builtin "set.update.loop" ⟨[.ref S, .ref I], []⟩) R s := by
  have nw : S ∉ wr := fun h => hSf (W.sub _ h)
  have inc : ∀ b ∈ wr, b ∈ S :: wr := fun b hb => List.mem_cons_of_mem _ hb
  intro k
  induction k with
  | zero =>
    intro i s hk hi st hS hR
    obtain rfl : i = n := by omega
    refine codeAny_builtin F.entry_set_update_loop ?_
    rw [Around.under_plainId F.plain_set_update_loop _]
    show wpAny _ A.in1 (pyNext (.ref I) >>= _) _ _ s
    refine wpAny_bind (W.done s _ _ st fun s' hm => ?_)
    rw [List.take_of_length_le (by omega)] at hS
    exact wpAny_pure (hR s' (hm.mono inc) (hS.at fun o e => hm.heap S o nw e))
  | succ k ih =>
    intro i s hk hi st hS hR
    have lt : i < n := by omega
    refine codeAny_builtin F.entry_set_update_loop ?_
    rw [Around.under_plainId F.plain_set_update_loop _]
    show wpAny _ A.in1 (pyNext (.ref I) >>= _) _ _ s
    refine wpAny_bind (W.item i s _ _ lt st fun v s' hP st' hm => ?_)
    obtain ⟨z, hz, rfl⟩ := hval i v hP
    have hS' := hS.at (h' := s'.heap) fun o e => hm.heap S o nw e
    have hl : cntB (xs.take i) + 1 < scanBound := by
      have h1 := cntB_le (xs := xs.take i)
      have : scanBound = 4096 := rfl
      omega
    show wpAny _ A.in1 (holding [Value.bool z] (setAdd S (.bool z)) >>= _) _ _ s'
    refine wpAny_bind (wpAny_holding ?_)
    unfold setAdd
    refine wpAny_holding (wpAny_bind ((boolK P w).pyHash (boolK_is P w z) (setB_add_hashed (s := { s' with toks := s'.toks + 1 }) hS' hl fun h' sb hS2 => ?_)))
    have hS2 : SetB w h' S (memB (xs.take (i + 1))) (cntB (xs.take (i + 1))) := by
      rw [cntB_take hz]
      exact hS2.congr fun j => memB_take hz j
    refine wpAny_pure ⟨plainId_quiet F.plain_set_update_loop _, ih (i + 1) _ (by omega) lt (W.frame _ s' _ _ st' (Nat.le_succ _) fun b hb o e => ?_) hS2 fun s2 m2 q2 => ?_⟩
    · rw [sb.2 b (fun h : b = S => hSf (h ▸ hb))]; exact e
    · refine hR s2 (Moved.trans W.gtrans ((hm.mono inc).then_heap (Nat.le_succ _) fun b o hb e => ?_) m2) q2
      rw [sb.2 b (fun h : b = S => hb (h ▸ List.mem_cons_self))]; exact e
inductive BoolsB : List Value → List Bool → Prop
  | nil : BoolsB [] []
  | cons (b : Bool) {vs bs} : BoolsB vs bs → BoolsB (.bool b :: vs) (b :: bs)
theorem bools_at : ∀ {vs : List Value} {xs : List Bool}, BoolsB vs xs → ∀ {i : Nat} {v : Value}, vs[i]? = some v → ∃ k, xs[i]? = some k ∧ v = .bool k
  | _, _, .nil, i, v, h => by simp at h
  | _, _, .cons y r, i, v, h => by
    cases i with
    | zero =>
      cases h
      exact ⟨y, rfl, rfl⟩
    | succ i => exact bools_at r h
theorem bools_len : ∀ {vs : List Value} {xs : List Bool}, BoolsB vs xs → vs.length = xs.length
  | _, _, .nil => rfl
  | _, _, .cons y r => congrArg Nat.succ (bools_len r)
theorem vals_bools : ∀ {xs : List Bool} {vs : List Value}, Vals (xs.map V.bl) vs → BoolsB vs xs
  | [], _, .nil => .nil
  | b :: xs, _, .cons e r => by
    cases (show _ = Value.bool b from e)
    exact .cons b (vals_bools r)
set_option maxHeartbeats 4000000 in
theorem bs_ofList {l : Addr} {items : Array Value} {xs : List Bool} {Q : Value → Shared → Prop} (hh : A.handled = none) (hl : s.heap.IsList l items) (hi : BoolsB items.toList xs)
    (h : ∀ (h' : Heap) (tk : Nat), SetB w h' s.heap.objs.size (memB xs) (cntB xs) → (∀ b o, s.heap.get? b = some o → h'.get? b = some o) → Q (.ref s.heap.objs.size) { s with heap := h', toks := tk }) : wpAny (model P w) A (call (.type "set") [.ref l]) Q E s := by
  have hz : items.size = xs.length := by
    have q := bools_len hi
    rwa [Array.length_toList] at q
  obtain ⟨c, tl, hmro⟩ := F.called_set.mro
  have hmade := F.called_set.made
  have hsub := F.called_set.sub
  refine wpAny_call (codeAny_of_tree ?_)
  show wpAny _ _ (callAny (.type "set") _) _ _ _
  refine wpAny_pure ⟨Code.quiet_builtin _ (by decide +kernel), codeAny_builtin F.entry_type_call ?_⟩
  rw [Around.under_plain (weight_type_call_type "set" [.ref l] []) rfl]
  have h1 := F.called_set.notType
  have h2 := F.called_set.canCreate
  have hct := F.typeCall_set_1 (.ref l)
  repeat (any_goals (first | assumption | wp_step))
  refine codeAny_mono (L2.code_set_led1 (.ref l) (E := E) (Q₁ := fun obj z => obj = .ref s.heap.objs.size ∧ z = { s with heap := s.heap.push (set0 w) }) ⟨rfl, rfl⟩) fun r s1 hr => ?_
  cases r with
  | error e => exact hr
  | ok fl =>
    cases fl with
    | ret obj =>
      obtain ⟨rfl, rfl⟩ := hr
      have hS : (s.heap.push (set0 w)).get? s.heap.objs.size = some (set0 w) := Heap.get?_push_size _ rfl
      have hT : Shared.TypeIs { s with heap := s.heap.push (set0 w) } (.ref s.heap.objs.size) "set" := ⟨_, hS, rfl⟩
      have hli := F.called_set.init.lookup
      have hbi := F.called_set.init.bind (.ref s.heap.objs.size)
      repeat (any_goals (first | assumption | wp_step))
      refine codeAny_mono (codeAny_call_builtin (R := wants (fun r z => r = .none ∧ ∃ h' tk, z = { s with heap := h', toks := tk } ∧ SetB w h' s.heap.objs.size (memB xs) (cntB xs) ∧ ∀ b o, s.heap.get? b = some o → h'.get? b = some o) E) F.called_set.init.plain F.entry_set_init (check_set_init_1 hT ?_)) fun r2 s2 hr2 => ?_
      · obtain ⟨ol, hol, hcl, nl, hdl⟩ := hl
        obtain ⟨oc, od, oda, os⟩ := ol
        simp only at hcl hdl
        subst hcl hdl
        have ho' : (s.heap.push (set0 w)).get? l = some { cls := .type "list", dict := od, data := .seq items nl, slots := os } := Heap.get?_push_of_some _ hol
        have hsls := F.sub_list_set
        have hslf := F.sub_list_frozenset
        have hne : (Value.type "list" == Value.type "dict") = false := by decide
        have hl1 : (s.heap.push (set0 w)).IsList l items := ⟨_, ho', rfl, nl, rfl⟩
        unfold Builtin.«set.__init__» noKeywords Builtin.Frozenset.updateFrom
        generalize hPI : pyIter = PI
        wp_walk
        subst hPI
        refine wpAny_pyIter_list hl1 (wpAny_bind (wpAny_runValue ?_))
        have hlS : l < s.heap.objs.size := Heap.lt_size hol
        have h3 : A.in1.in1.in1.handled = none := by simp [hh]
        have sz : (s.heap.push (set0 w)).objs.size = s.heap.objs.size + 1 := Heap.size_push ..
        refine bs_update ((Walks.list h3 _ l (by rw [sz]; exact Nat.ne_of_lt (Nat.lt_succ_of_lt hlS)) items).toS) s.heap.objs.size ?_ xs hz (fun i v hv => bools_at hi (by rw [Array.getElem?_toList]; exact hv)) (items.size - 0) 0 _ (by omega) (Nat.zero_le _)
          ⟨⟨_, Heap.get?_push_size _ rfl, rfl, rfl⟩, hl1.push _⟩ ((setB_fresh w).at fun o e => by rw [Heap.get?_push_size _ rfl] at e; cases e; exact Heap.get?_push_of_some _ hS) fun s' hm hS' => ?_
        · rw [sz]
          simp only [List.mem_cons, List.not_mem_nil, or_false, not_or]
          exact ⟨Nat.ne_of_lt (Nat.lt_succ_self _), Nat.ne_of_gt hlS⟩
        · obtain ⟨h', g2, d', tk', os'⟩ := s'
          have eg : g2 = s.gens := hm.gens
          have ed : d' = s.drawn := hm.drawn
          have eo : os' = s.os := hm.os
          subst eg ed eo
          show wpAny _ _ _ _ _ _
          refine wpAny_pure ?_
          show wpAny _ _ (ret Value.none) _ _ _
          refine wpAny_pure ⟨rfl, h', tk', rfl, hS', fun b o e => ?_⟩
          have b0 := Heap.lt_size e
          refine hm.heap b o ?_ (Heap.get?_push_of_some _ (Heap.get?_push_of_some _ e))
          rw [sz]
          simp only [List.mem_cons, List.not_mem_nil, or_false, not_or]
          exact ⟨Nat.ne_of_lt b0, Nat.ne_of_lt (Nat.lt_succ_of_lt b0)⟩
      · cases r2 with
        | error e => exact hr2
        | ok fl2 =>
          cases fl2 with
          | ret r =>
            obtain ⟨rfl, h', tk, rfl, hS', hk'⟩ := hr2
            repeat (any_goals (first | assumption | wp_step))
            exact h _ _ hS' hk'
          | _ => exact hr2.elim
    | _ => exact hr.elim
end
section
variable {X : Cx}
/-- set(xs), xs a list of truth values -/
theorem cr_setBL (hc : X.calm = true) : CallR X (.type "set") (fun vs H Q => ∃ (p : Addr) (xs : List Bool), vs = [V.ref p] ∧ SqL X.K H p (xs.map V.bl) ∧ ∀ q, H q = none → Q (.ref q) (upd H q (SetBO X.w q (memB xs) (cntB xs)))) := by
  intro pins s σ H vs us Q I r h
  obtain ⟨p, xs, rfl, hs, q⟩ := h
  rw [Vals.ref1 r]
  obtain ⟨its, rv, hl, _⟩ := I.list hs
  refine bs_ofList (I.ok.hd hc) hl.isList (xs := xs) (by simpa using vals_bools rv) fun h' tk R k => ?_
  exact ⟨.ref _, upd H s.heap.objs.size (SetBO X.w s.heap.objs.size (memB xs) (cntB xs)), I.laid (t' := tk) k (Nat.le_refl _) (setBO_new R), rfl, q _ (I.hok.fresh (Nat.le_refl _))⟩
/-- len of it -/
theorem cr_lenB : CallR X (.builtin "len") (fun vs H Q => ∃ (a : Addr) (S : Bool → Bool) (n : Nat), vs = [V.ref a] ∧ H a = some (SetBO X.w a S n) ∧ n < 4000 ∧ Q (.int (n : Int)) H) := by
  intro pins s σ H vs us Q I r h
  obtain ⟨a, S, n, rfl, ha, hn, q⟩ := h
  rw [Vals.ref1 r]
  obtain ⟨o, es, ep, t, ho, hex, hd, g, nd, hm, hb, hf, hsz, _⟩ := setBO_get I ha
  have h4 : scanBound = 4096 := rfl
  refine PySem.call_len_set ho hex hd hf (by omega) ⟨.int _, H, I.tok _, ?_, q⟩
  rw [hsz]
  exact ⟨_, rfl⟩
end
end
/-! ### str(x) by an own __str__ -/
section
open PySem PySem.Spec PyProof.Rows
variable {X : Cx} {k : Nat} {C f : Addr} {fd : FuncData} {ps : List Str} {sp : Sp}
theorem call_strOwn (hs : PySem.W.findIn X.K (.ref C) "__str__" = some (some (.ref f))) (hf : PySem.W.isFn X.K (.ref f) = true) (F : FnOk X.prog X.w X.K X.mg X.base CX0 k f fd ps sp) (hr : Room (k + 2) X.A) (hb : L2.Binds X.K fd ps []) :
    CallR X (.type "str") (fun vs H Q => ∃ p dx fs, vs = [.ref p] ∧ H p = some (.ins C dx fs) ∧ sp [.ref p] H (fun v H' => (∃ z : Str, v = .str z) ∧ Q v H') E0) := by
  intro pins s σ H vs us Q I r h
  obtain ⟨p, dx, fs, rfl, hp, h⟩ := h
  rw [Vals.ref1 r]
  obtain ⟨od, J⟩ := own_at I hp
  have hr2 : Room k X.A.in1.in1 := (Room.in1 (Room.in1 hr))
  have hl : ([Value.ref p] ++ []).length = ps.length := F.len _ _ _ _ h
  have b := hb s [Value.ref p] I.kIn hl
  rw [List.append_nil] at b
  refine PySem.W.kso_call hr2.units0 I.kIn J hs hf ?_
  refine wpAny_call (codeAny_mono (F.run X.A.in1.in1 X.stack s H ⟨[.ref p], []⟩ [.ref p] [.ref p] (fun v H' => (∃ z : Str, v = .str z) ∧ Q v H') E0 hr2 I.env0.in1.in1 b (.cons rfl .nil) h) fun q s' hq => ?_)
  match q, hq with
  | .error e, hq => exact hq.elim
  | .ok (.ret u), hq =>
    obtain ⟨v, H', I', rv, ⟨z, ez⟩, q'⟩ := I.after hq
    subst ez
    obtain ⟨t, rfl⟩ := rv
    exact ⟨.str z, H', I', ⟨t, rfl⟩, q'⟩
  | .ok .next, hq => exact hq.elim
  | .ok .brk, hq => exact hq.elim
  | .ok .cont, hq => exact hq.elim
end
/-! ### functions as values: nested defs and lambdas handed to another def -/
section
open PySem PySem.Spec PyProof.Rows LamX NdefX
/-- cells that were captured, seen from a frame whose callers are outer -/
structure VC (cl : List (Str × Addr)) (fr : List Str) (ws : List (Option V)) (h : Heap) (H : Hp) (outer : List Env) : Prop where
  at_ : CellsAt cl fr ws h H
  nf : ∀ y c, cl.lookup y = some c → c ∉ frs outer
theorem VC.later {X : Cx} {pins : List (Addr × Obj)} {σ : L2.St} {H : Hp} {s : Shared} {cl : List (Str × Addr)} {fr : List Str} {ws : List (Option V)} (C : VC cl fr ws X.s_0.heap X.H_0 X.outer) (hx : X.ex = []) (I : Inv X pins σ H s) : VC cl fr ws s.heap H X.stack := by
  have C2 : CellsAt cl fr ws s.heap H := C.at_.later C.nf (fun y c _ => by rw [hx]; simp) I
  refine ⟨C2, fun y c e hc => ?_⟩
  rcases List.mem_cons.mp (I.stkSub _ hc) with q | q
  · obtain ⟨_, v, o, ho, hd⟩ := C2.all y c e
    obtain ⟨m, ⟨o2, es, ep, h2, hd2, _⟩, _⟩ := I.loc
    rw [← q, ho] at h2
    cases h2
    rw [hd] at hd2
    cases hd2
  · exact C.nf y c e q
theorem VC.own {X : Cx} {pins : List (Addr × Obj)} {σ : L2.St} {H : Hp} {s : Shared} {cl : List (Str × Addr)} {fr : List Str} {js : List Nat} (I : Inv X pins σ H s) (cp : Caps X cl fr js) (hc : ∀ y c, cl.lookup y = some c → X.fn y = true) : VC cl fr (js.map (slotAt σ)) s.heap H X.stack := by
  refine ⟨cells_of I cp, fun y c e hs => ?_⟩
  have e2 := cp.sub y c e
  rcases List.mem_cons.mp (I.stkSub _ hs) with q | q
  · obtain ⟨v, o, ho, hd⟩ := I.cell y c e2
    obtain ⟨m, ⟨o2, es, ep, h2, hd2, _⟩, _⟩ := I.loc
    rw [← q, ho] at h2
    cases h2
    rw [hd] at hd2
    cases hd2
  · have l := I.ok.cab y c (hc y c e) e2
    obtain ⟨_, o, ho, _⟩ := I.ok.funs.mem q
    exact absurd (Heap.lt_size ho) (Nat.not_lt.mpr l)
/-- the object at f is a function -/
def IsFO (H : Hp) (f : Addr) : Prop := ∃ φ : Heap → Prop, H f = some (.ext φ) ∧ ∀ h, φ h → PySem.W.FnAt f h
theorem IsFO.of {P : Program} {w : World} {H : Hp} {h : Heap} {f : Addr} (x : IsFO H f) (hok : HOk P w H h) : PySem.W.FnAt f h := by
  obtain ⟨φ, e, k⟩ := x
  exact k h (hok f _ e).1
theorem IsFO.fn {H : Hp} {f : Addr} {F : NF} (e : H f = some (FnO f F)) : IsFO H f := ⟨_, e, fun _ ⟨_, sl, doc, pm, ctv, q⟩ => ⟨_, _, _, sl, q⟩⟩
/-- a function value: what a call of it promises, as long as its cells stand -/
def FV (P : Program) (w : World) (K : PySem.W.Frag) (mg : Str → Option Value) (base : Heap) (CX : CXT) (k : Nat) (f : Addr) (sp : Sp) (h : Heap) (H : Hp) (outer : List Env) : Prop :=
  ∃ (cl : List (Str × Addr)) (fr : List Str) (ws : List (Option V)), VC cl fr ws h H outer ∧ ∀ (A : Around) (outer : List Env) (s : Shared) (H : Hp) (us : List Value) (vs : List V) (Q : VK) (E : XK), Room k A → Env0 P w K mg base A outer s H →
    CellsAt cl fr ws s.heap H → Vals vs us → sp vs H Q E → codeAny (model P w) A (.call (.ref f) ⟨us, []⟩) (CR CX outer P w H s Q E) s
theorem FV.later {X : Cx} {CX : CXT} {k : Nat} {f : Addr} {sp : Sp} {pins : List (Addr × Obj)} {σ : L2.St} {H : Hp} {s : Shared} (F : FV X.prog X.w X.K X.mg X.base CX k f sp X.s_0.heap X.H_0 X.outer) (hx : X.ex = []) (I : Inv X pins σ H s) : FV X.prog X.w X.K X.mg X.base CX k f sp s.heap H X.stack := by
  obtain ⟨cl, fr, ws, C, run⟩ := F
  exact ⟨cl, fr, ws, C.later hx I, run⟩
theorem FV.mono {P : Program} {w : World} {K : PySem.W.Frag} {mg : Str → Option Value} {base : Heap} {CX : CXT} {k j : Nat} {f : Addr} {sp : Sp} {h : Heap} {H : Hp} {outer : List Env} (F : FV P w K mg base CX k f sp h H outer) (l : k ≤ j) : FV P w K mg base CX j f sp h H outer := by
  obtain ⟨cl, fr, ws, C, run⟩ := F
  exact ⟨cl, fr, ws, C, fun A outer s H us vs Q E hr => run A outer s H us vs Q E (hr.mono l)⟩
/-- of a nested def -/
theorem FV.ndef {P : Program} {w : World} {K : PySem.W.Frag} {mg : Str → Option Value} {base : Heap} {CX : CXT} {k : Nat} {f : Addr} {F : NF} {ps fr : List Str} {sp : List (Option V) → Sp} {ws : List (Option V)} {h : Heap} {H : Hp} {outer : List Env} (N : NOk P w K mg base CX k f F ps fr sp) (C : VC F.cl fr ws h H outer) :
    FV P w K mg base CX k f (fun vs H Q E => H f = some (FnO f F) ∧ H F.c = some (CodeO F.c F.qual) ∧ sp ws vs H Q E) h H outer :=
  ⟨F.cl, fr, ws, C, fun A outer s H us vs Q E hr e0 C2 r q => N.run A outer s H us vs ws Q E hr e0 q.1 q.2.1 C2 r q.2.2⟩
/-- what the running frame knows of the heap at a call -/
structure Knows (X : Cx) (σ : L2.St) (h : Heap) (H : Hp) : Prop where
  ok : X.Ok
  own : ∀ cl fr js, Caps X cl fr js → (∀ y c, cl.lookup y = some c → X.fn y = true) → VC cl fr (js.map (slotAt σ)) h H X.stack
  was : ∀ (CX : CXT) (k : Nat) (f : Addr) (sp : Sp), FV X.prog X.w X.K X.mg X.base CX k f sp X.s_0.heap X.H_0 X.outer → X.ex = [] → FV X.prog X.w X.K X.mg X.base CX k f sp h H X.stack
theorem Knows.of {X : Cx} {pins : List (Addr × Obj)} {σ : L2.St} {H : Hp} {s : Shared} (I : Inv X pins σ H s) : Knows X σ s.heap H := ⟨I.ok, fun _ _ _ cp hc => VC.own I cp hc, fun _ _ _ _ F hx => F.later hx I⟩
/-- a def whose promise speaks of the heap at its call -/
abbrev SpS := Heap → List Env → Sp
structure FnOkS (P : Program) (w : World) (K : PySem.W.Frag) (mg : Str → Option Value) (base : Heap) (CX : CXT) (k : Nat) (f : Addr) (fd : FuncData) (ps : List Str) (sp : SpS) : Prop where
  len : ∀ h outer vs H Q E, sp h outer vs H Q E → vs.length = ps.length
  run : ∀ (A : Around) (outer : List Env) (s : Shared) (H : Hp) (args : Args) (us : List Value) (vs : List V) (Q : VK) (E : XK), Room k A → Env0 P w K mg base A outer s H → BindsTo s fd args (ps.zip us) → Vals vs us → sp s.heap outer vs H Q E →
    codeAny (model P w) A (.call (.ref f) args) (CR CX outer P w H s Q E) s
theorem fnS_of {P : Program} {w : World} {K : PySem.W.Frag} {mg : Str → Option Value} {base : Heap} {CX : CXT} {x qual : Str} {st : Stmt} {f : Addr} {fd : FuncData} {N ps : List Str} {k : Nat} {sp : SpS} (F : Fun K x qual st f fd) (S : FnScope N ps (defScope st)) (len : ∀ h outer vs H Q E, sp h outer vs H Q E → vs.length = ps.length)
    (hbody : ∀ (cdv : Value) (A : Around) (outer : List Env) (s : Shared) (H : Hp) (vs : List V) (Q : VK) (E : XK), Room k (A.deeper (envOfC qual (defScope st) s.heap.objs.size f cdv)) → sp s.heap outer vs H Q E →
      ∃ t, PSs (cxOf CX P w K mg base N qual (defScope st) f cdv A outer s H E) (defBody st) t ∧ t { nx := fun _ H' => Q .non H', rt := Q } (start N vs) H) : FnOkS P w K mg base CX (k + 1) f fd ps sp := by
  obtain ⟨oc, od, kV, doc, pm, an, cdv, ct, osl, rfl, lk, hcd⟩ := F.ex
  refine ⟨len, fun A outer s H args us vs Q E hr e0 hb r q => ?_⟩
  exact run_ofS lk hcd S hr e0 hb r (len _ _ _ _ _ _ q) fun hr2 => hbody cdv A outer s H vs Q E hr2 q
section
variable {X : Cx} {CX : CXT} {k : Nat} {f : Addr} {fd : FuncData} {ps : List Str} {sp : SpS} {dvs : List V} {ds : List Value} {E : L2.St → XK} {x : Str} {p pos : Pos} {e : Expr} {es : List Expr} {t : TA}
/-- a wish that does not look at the slots -/
theorem atAny {E1 : XK} (h : Passes CX X E1) : ∀ σ, PassesAt CX X σ E1 := fun σ pins H s e s' => h pins σ H s e s'
theorem run_fS {pins : List (Addr × Obj)} {σ : L2.St} {H : Hp} {s : Shared} {Q : VK} {us : List Value} {vs : List V} (F : FnOkS X.prog X.w X.K X.mg X.base CX k f fd ps sp) (hr : Room k X.A) (hb : L2.Binds X.K fd ps ds) (hd : Vals dvs ds) (hx : ∀ σ, PassesAt CX X σ (E σ))
    (I : Inv X pins σ H s) (r : Vals vs us) (h : sp s.heap X.stack (vs ++ dvs) H Q (E σ)) : wpAny (model X.prog X.w) X.A (call (.ref f) us) (EP X pins σ Q) X.xe s := by
  have r2 : Vals (vs ++ dvs) (us ++ ds) := r.append hd
  have hl : (us ++ ds).length = ps.length := by
    rw [← r2.length]
    exact F.len _ _ _ _ _ _ h
  refine wpAny_call (codeAny_mono (F.run X.A X.stack s H ⟨us, []⟩ _ _ Q (E σ) hr I.env0 (hb s us I.kIn hl) r2 h) fun o s' hq => ?_)
  match o, hq with
  | .error e, hq => exact hx σ pins H s e s' I hq
  | .ok (.ret u), hq => exact I.after hq
  | .ok .next, hq => exact hq.elim
  | .ok .brk, hq => exact hq.elim
  | .ok .cont, hq => exact hq.elim
/-- g(..), g a def of the module whose promise speaks of the heap -/
def tCallS (X : Cx) (sp : SpS) (dvs : List V) (E : L2.St → XK) (t : TA) : TE := fun σ H Q => t σ H fun vs H1 => ∀ h, Knows X σ h H1 → sp h X.stack (vs ++ dvs) H1 Q (E σ)
theorem pe_callS (F : FnOkS X.prog X.w X.K X.mg X.base CX k f fd ps sp) (hr : Room k X.A) (hg : Gl X x) (hm : X.mg x = some (.ref f)) (hk : PySem.W.keepIn X.K (.ref f) = true) (hb : L2.Binds X.K fd ps ds) (hd : Vals dvs ds) (hx : ∀ σ, PassesAt CX X σ (E σ))
    (ha : PA X (e :: es) t) (hdb : (x == ("__debug__" : Str)) = false := by decide) (he : starEach (e :: es) X.env = (false, eval e X.env) :: starEach es X.env := by rfl) (hpl : (backTo pos (starEach es X.env)).any (·.1) = false := by rfl) :
    PE X (.Call (.Name x p) (e :: es) [] pos) (tCallS X sp dvs E t) := by
  refine ⟨fun pins s σ H Q I h => wpAny_Call_Name_kw (ld_glob I hg hm ?_ hdb)⟩
  refine PySem.W.callWith_K (h₀ := X.base) I.ok.mod.kin hk ?_ he hpl
  exact thn (ha.run pos pins s σ H _ I h) fun us s1 ⟨vs, H1, I1, r, q⟩ => ⟨I1.kIn, run_fS F hr hb hd hx I1 r (q _ (Knows.of I1))⟩
/-- x(..), x a name that holds a function value -/
def tCallV (P : Program) (w : World) (K : PySem.W.Frag) (mg : Str → Option Value) (base : Heap) (CX : CXT) (k i : Nat) (h0 : Heap) (H0 : Hp) (outer : List Env) (E : L2.St → XK) (t : TA) : TE := fun σ H Q => ∃ f, σ[i]? = some (some (.ref f)) ∧ IsFO H f ∧
  t σ H fun vs H1 => IsFO H1 f ∧ ∃ sp, FV P w K mg base CX k f sp h0 H0 outer ∧ sp vs H1 Q (E σ)
theorem run_fv {pins : List (Addr × Obj)} {σ : L2.St} {H : Hp} {s : Shared} {Q : VK} {us : List Value} {vs : List V} {sp : Sp} (F : FV X.prog X.w X.K X.mg X.base CX k f sp X.s_0.heap X.H_0 X.outer) (hex : X.ex = []) (hr : Room k X.A) (hx : ∀ σ, PassesAt CX X σ (E σ))
    (I : Inv X pins σ H s) (r : Vals vs us) (q : sp vs H Q (E σ)) : wpAny (model X.prog X.w) X.A (call (.ref f) us) (EP X pins σ Q) X.xe s := by
  obtain ⟨cl, fr, ws, C, run⟩ := F
  refine wpAny_call (codeAny_mono (run X.A X.stack s H us vs Q (E σ) hr I.env0 (C.later hex I).at_ r q) fun o s' hq => ?_)
  match o, hq with
  | .error e, hq => exact hx σ pins H s e s' I hq
  | .ok (.ret u), hq => exact I.after hq
  | .ok .next, hq => exact hq.elim
  | .ok .brk, hq => exact hq.elim
  | .ok .cont, hq => exact hq.elim
variable {i j : Nat} {h0 : Heap} {H0 : Hp} {outer : List Env}
theorem pe_callV0 (e1 : X.s_0.heap = h0) (e2 : X.H_0 = H0) (e3 : X.outer = outer) (hex : X.ex = []) (hr : Room j X.A) (hk : k ≤ j) (hx : ∀ σ, PassesAt CX X σ (E σ)) (hN : X.N[i]? = some x) (hv : Vis X.env.scope x) (hd : (x == ("__debug__" : Str)) = false := by decide) (hcd : (x == ("__classdict__" : Str)) = false := by decide) :
    PE X (.Call (.Name x p) [] [] pos) (tCallV X.prog X.w X.K X.mg X.base CX k i h0 H0 outer E tNil) := by
  refine ⟨fun pins s σ H Q I h => ?_⟩
  obtain ⟨f, hs, _, hf, sp, F, q⟩ := h
  refine wpAny_Call_Name_kw (thn ((pe_var (pos := p) hN hv hd hcd).run pins s σ H (fun v H1 => v = .ref f ∧ H1 = H) I ⟨.ref f, hs, rfl, rfl⟩) fun u s1 ⟨v, H1, I1, r1, ev, eH⟩ => ?_)
  subst ev eH
  obtain rfl : u = Value.ref f := r1
  exact PySem.W.callWith_F0 (first := []) (hf.of I1.hok) (run_fv (us := []) (e1 ▸ e2 ▸ e3 ▸ F) hex (hr.mono hk) hx I1 .nil q)
theorem pe_callV (e1 : X.s_0.heap = h0) (e2 : X.H_0 = H0) (e3 : X.outer = outer) (hex : X.ex = []) (hr : Room j X.A) (hk : k ≤ j) (hx : ∀ σ, PassesAt CX X σ (E σ)) (hN : X.N[i]? = some x) (hv : Vis X.env.scope x) (ha : PA X (e :: es) t) (hd : (x == ("__debug__" : Str)) = false := by decide) (hcd : (x == ("__classdict__" : Str)) = false := by decide)
    (he : starEach (e :: es) X.env = (false, eval e X.env) :: starEach es X.env := by rfl) (hpl : (backTo pos (starEach es X.env)).any (·.1) = false := by rfl) :
    PE X (.Call (.Name x p) (e :: es) [] pos) (tCallV X.prog X.w X.K X.mg X.base CX k i h0 H0 outer E t) := by
  refine ⟨fun pins s σ H Q I h => ?_⟩
  obtain ⟨f, hs, hf, ht⟩ := h
  refine wpAny_Call_Name_kw (thn ((pe_var (pos := p) hN hv hd hcd).run pins s σ H (fun v H1 => v = .ref f ∧ H1 = H) I ⟨.ref f, hs, rfl, rfl⟩) fun u s1 ⟨v, H1, I1, r1, ev, eH⟩ => ?_)
  subst ev eH
  obtain rfl : u = Value.ref f := r1
  refine PySem.W.callWith_F (first := []) (hf.of I1.hok) ?_ he hpl
  exact thn (ha.run pos pins s1 σ H1 _ I1 ht) fun us s2 ⟨vs, H2, I2, r, h1, sp, F, q⟩ => ⟨h1.of I2.hok, run_fv (e1 ▸ e2 ▸ e3 ▸ F) hex (hr.mono hk) hx I2 r q⟩
end
/-! ### lambdas -/
/-- the object at f is the lambda of these words (F's own body is not looked at) -/
def LamO (f : Addr) (F : NF) (body : Expr) : HO := .ext fun h => ∃ pm ctv : Value, h.get? f = some (PySem.W.kla_obj F.name F.qual F.params body F.scope F.cl pm F.c ctv)
theorem IsFO.lam {H : Hp} {f : Addr} {F : NF} {body : Expr} (e : H f = some (LamO f F body)) : IsFO H f := ⟨_, e, fun _ ⟨_, _, q⟩ => ⟨_, _, _, _, q⟩⟩
theorem FV.lam {P : Program} {w : World} {K : PySem.W.Frag} {mg : Str → Option Value} {base : Heap} {CX : CXT} {N fr : List Str} {k : Nat} {f : Addr} {F : NF} {body : Expr} {ws : List (Option V)} {sp : Sp} {h : Heap} {H : Hp} {outer : List Env} (S : NScope N [] fr F.scope) (C : VC F.cl fr ws h H outer)
    (hb : ∀ pm ctv : Value, bindArgs (PySem.W.kla_fn F.name F.qual F.params body F.scope F.cl pm (.ref F.c) ctv) ⟨[], []⟩ = pure [])
    (hbody : ∀ (A : Around) (outer : List Env) (s : Shared) (H : Hp) (vs : List V) (Q : VK) (E : XK), Room k (A.deeper (envF F f s.heap.objs.size)) → sp vs H Q E → vs = [] ∧ H f = some (LamO f F body) ∧ H F.c = some (CodeO F.c F.qual) ∧
      ∃ t, PE (ncx CX P w K mg base N F f A outer s H E) body t ∧ t (startF N [] ws) H Q) : FV P w K mg base CX (k + 1) f sp h H outer := by
  refine ⟨F.cl, fr, ws, C, fun A outer s H us vs Q E hr e0 C2 r q => ?_⟩
  obtain ⟨rfl, hf, hc, t, ht, hq⟩ := hbody A outer s H vs Q E (hr.deeper _) q
  cases r
  obtain ⟨⟨pm, ctv, ho⟩, _, _⟩ := e0.hok f _ hf
  have lim : s.heap.NoLimit := e0.mod.nolimit.keeps fun b o e => (e0.bs b o e).1
  refine PySem.W.kla_callFunE hr.depth ho rfl S.co S.gen rfl (codeO_at e0.hok hc) ?_
  rw [hb pm ctv]
  refine wpAny_pure (wpAny_newFunctionEnv S.nocell (fun y hy => absurd hy (by simp)) (fun h₁ hns hsb => ⟨lim.fresh _ hsb, ?_⟩) S.kind)
  have kp : ∀ b o, s.heap.get? b = some o → h₁.get? b = some o := fun b o e => hsb.extBut b o (Nat.ne_of_lt (Heap.lt_size e)) (Heap.get?_push_of_some _ e)
  have J := inv_startN (CX := CX) (E := E) (f := f) (tk := s.toks + ([] : List (Str × Value)).length) S hr.hd e0 rfl .nil C2 hns kp
  refine PySem.W.kla_codeExpr (wpAny_mono (ht.run [] _ _ H Q J hq) (fun v s' z => ?_) fun e s' z => z)
  obtain ⟨v', H', J', rv, q'⟩ := z
  exact ⟨v', H', J'.os, J'.bare, J'.base, J'.hok, rv, q'⟩
/-! ### defs that make functions: their code object is told -/
structure FunC (K : PySem.W.Frag) (x qual : Str) (st : Stmt) (f : Addr) (fd : FuncData) (c : Addr) : Prop where
  ex : ∃ (oc : Value) (od : Option Addr) (kV doc pm : Value) (an : Option Addr) (ct : Value) (osl : Array (Option Value)),
    fd = PySem.W.fnOf x qual (defArgs st) (defBody st) (defScope st) .none kV doc pm an (.ref c) ct ∧ K.lookup f = some ⟨oc, od, .func fd, osl⟩ ∧ PySem.W.codeIn K (.ref c) qual = true
section
variable {P : Program} {w : World} {K : PySem.W.Frag} {mg : Str → Option Value} {base : Heap} {x qual : Str} {st : Stmt} {f c : Addr} {fd : FuncData} {N ps : List Str} {k : Nat}
theorem FunC.okT {sp : Sp} (F : FunC K x qual st f fd c) (S : FnScope N ps (defScope st)) (len : ∀ vs H Q E, sp vs H Q E → vs.length = ps.length)
    (hbody : ∀ (A : Around) (outer : List Env) (s : Shared) (H : Hp) (vs : List V) (Q : VK) (E : XK), Room k (A.deeper (envOfC qual (defScope st) s.heap.objs.size f (.ref c))) → sp vs H Q E →
      ∃ t, PSs (cxOf CX0 P w K mg base N qual (defScope st) f (.ref c) A outer s H E).nox (defBody st) t ∧ t { nx := fun _ H' => Q .non H', rt := Q } (start N vs) H) : FnOk P w K mg base CX0 (k + 1) f fd ps sp := by
  obtain ⟨oc, od, kV, doc, pm, an, ct, osl, rfl, lk, hcd⟩ := F.ex
  refine fn_of lk hcd S len fun A outer s H vs Q E hr q => ?_
  obtain ⟨t, p, e⟩ := hbody A outer s H vs Q E hr q
  exact ⟨t, p.nox, e⟩
theorem FunC.okX {sp : Sp} (F : FunC K x qual st f fd c) (S : FnScope N ps (defScope st)) (len : ∀ vs H Q E, sp vs H Q E → vs.length = ps.length)
    (hbody : ∀ (A : Around) (outer : List Env) (s : Shared) (H : Hp) (vs : List V) (Q : VK) (E : XK), Room k (A.deeper (envOfC qual (defScope st) s.heap.objs.size f (.ref c))) → sp vs H Q E →
      ∃ t, PSs (cxOf (L2.CX P w) P w K mg base N qual (defScope st) f (.ref c) A outer s H E) (defBody st) t ∧ t { nx := fun _ H' => Q .non H', rt := Q } (start N vs) H) : FnOk P w K mg base (L2.CX P w) (k + 1) f fd ps sp := by
  obtain ⟨oc, od, kV, doc, pm, an, ct, osl, rfl, lk, hcd⟩ := F.ex
  exact fn_of lk hcd S len fun A outer s H vs Q E hr q => hbody A outer s H vs Q E hr q
theorem funC_mk {oc kV doc pm ct cd : Value} {od an : Option Addr} {osl : Array (Option Value)} (l : K.lookup f = some ⟨oc, od, .func (PySem.W.fnOf x qual (defArgs st) (defBody st) (defScope st) .none kV doc pm an cd ct), osl⟩) (e : cd = .ref c) (h : PySem.W.codeIn K cd qual = true) :
    FunC K x qual st f (PySem.W.fnOf x qual (defArgs st) (defBody st) (defScope st) .none kV doc pm an cd ct) c := by
  subst e
  exact ⟨_, _, _, _, _, _, _, _, rfl, l, h⟩
/-- a def that catches all, its promise of the heap -/
theorem fnS0 {sp : SpS} (F : Fun K x qual st f fd) (S : FnScope N ps (defScope st)) (len : ∀ h outer vs H Q E, sp h outer vs H Q E → vs.length = ps.length)
    (hbody : ∀ (cdv : Value) (A : Around) (outer : List Env) (s : Shared) (H : Hp) (vs : List V) (Q : VK) (E : XK), Room k (A.deeper (envOfC qual (defScope st) s.heap.objs.size f cdv)) → sp s.heap outer vs H Q E →
      ∃ t, PSs (cxOf CX0 P w K mg base N qual (defScope st) f cdv A outer s H E).nox (defBody st) t ∧ t { nx := fun _ H' => Q .non H', rt := Q } (start N vs) H) : FnOkS P w K mg base CX0 (k + 1) f fd ps sp :=
  fnS_of F S len fun cdv A outer s H vs Q E hr q => by
    obtain ⟨t, p, e⟩ := hbody cdv A outer s H vs Q E hr q
    exact ⟨t, p.nox, e⟩
end
end
/-! ### a lambda is made, wherever it stands in an expression -/
section
open PySem PySem.Spec PyProof.Rows LamX NdefX
theorem tabs_grow {T : List NTab} {H : Hp} {P c2 : Addr} {nm : Nat → Nat → Str} {ps : Array Value} {pos : Pos} (all : TabsN T H) (one : ∀ p ∈ T, p.1 = P → p.2 = nm) (eP : H P = some (.tbl ps)) (ok : TriplesOk ps.toList)
    (old : ∀ (q : Pos) (cv : Value), codeAmong q ps.toList = some cv → ∃ c, cv = .ref c ∧ H c = some (CodeO c (nm q.line q.col))) (new : H c2 = Option.none) :
    TabsN T (upd (upd H P (.tbl (ps ++ #[rawInt pos.line, rawInt pos.col, .ref c2]))) c2 (CodeO c2 (nm pos.line pos.col))) ∧ ExtN H (upd (upd H P (.tbl (ps ++ #[rawInt pos.line, rawInt pos.col, .ref c2]))) c2 (CodeO c2 (nm pos.line pos.col))) := by
  have nPc : P ≠ c2 := ne_of_none eP new
  have ext : ExtN H (upd (upd H P (.tbl (ps ++ #[rawInt pos.line, rawInt pos.col, .ref c2]))) c2 (CodeO c2 (nm pos.line pos.col))) := by
    intro b o eb nt
    have hbP : b ≠ P := fun z => nt ps (by rw [z, eP] at eb; exact (Option.some.inj eb).symm)
    exact upd_oth (ne_of_none eb new) (upd_oth hbP eb)
  refine ⟨fun p hp => ?_, ext⟩
  obtain ⟨qs, q1, q2, q3⟩ := all p hp
  by_cases hP : p.1 = P
  · have enm := one p hp hP
    rw [hP] at q1 ⊢
    rw [enm]
    refine ⟨_, upd_oth nPc upd_same, ?_, ?_⟩
    · rw [Array.toList_append]
      exact PySem.TriplesOk_snoc _ _ _ _ ok
    · intro q cv hcv
      rw [Array.toList_append] at hcv
      rcases among_app2 _ ok hcv with l | ⟨l, l1, l2⟩
      · obtain ⟨c0, y1, y2⟩ := old q cv l
        exact ⟨c0, y1, ext _ _ y2 codeO_ne⟩
      · rw [l1, l2]
        exact ⟨c2, l, upd_same⟩
  · refine ⟨qs, upd_oth (ne_of_none q1 new) (upd_oth hP q1), q2, fun q cv hcv => ?_⟩
    obtain ⟨c0, y1, y2⟩ := q3 q cv hcv
    exact ⟨c0, y1, ext _ _ y2 codeO_ne⟩
theorem lam_laid {X : Cx} {pins : List (Addr × Obj)} {σ : L2.St} {H : Hp} {h : Heap} {t : Nat} {F : NF} {body : Expr} {pm ctv : Value} {sh : Shared} (es : sh.heap = h) (I : Inv X pins σ H sh) :
    Inv X pins σ (upd H h.objs.size (LamO h.objs.size F body)) { sh with heap := h.push (PySem.W.kla_obj F.name F.qual F.params body F.scope F.cl pm F.c ctv), toks := t } := by
  subst es
  refine I.laid (t' := t) (fun b u e => Heap.get?_push_of_some _ e) (Nat.le_refl _) ?_
  have e := Heap.get?_push_size sh.heap (o := PySem.W.kla_obj F.name F.qual F.params body F.scope F.cl pm F.c ctv) rfl
  exact ⟨⟨pm, ctv, e⟩, ⟨_, e⟩, fun h1 h2 ⟨p1, c1, q⟩ kk => ⟨p1, c1, kk _ q⟩⟩
/-- the words of the lambda that X makes -/
abbrev lamF (X : Cx) (params : Arguments) (scope : Scope) (c : Addr) : NF := ⟨"<lambda>", X.env.qual ++ "<lambda>", params, [], scope, cloFrom X.env.cells scope.names [], c⟩
def tLamV (T : List NTab) (mk : Addr → NF) (body : Expr) : TE := fun _ H Q => TabsN T H ∧ ∀ (f c : Addr) (H1 : Hp), ExtN H H1 → (∀ b, H1 b = Option.none → H b = Option.none) → TabsN T H1 → H f = Option.none → H1 f = some (LamO f (mk c) body) → H1 c = some (CodeO c (mk c).qual) → Q (.ref f) H1
theorem pe_lam {X : Cx} {T : List NTab} {nm : Nat → Nat → Str} {c P : Addr} {params : Arguments} {body : Expr} {scope : Scope} {pos : Pos} (TB : TabB X.base X.mg c P) (code : X.env.code = .ref c) (mem : (P, nm) ∈ T) (qn : nm pos.line pos.col = X.env.qual ++ "<lambda>") (one : ∀ p ∈ T, p.1 = P → p.2 = nm)
    (free : ∀ y ∈ scope.names, y.2 = .free → X.env.scope.names.lookup y.1 = some .cell ∨ X.env.scope.names.lookup y.1 = some .free) (dflt : defaultsOf params X.env = ([], [])) : PE X (.Lambda params body scope pos) (tLamV T (lamF X params scope) body) := by
  refine ⟨fun pins s σ H Q I h => ?_⟩
  obtain ⟨all, h⟩ := h
  obtain ⟨ps, eP, ok, old⟩ := all _ mem
  have fr : ∀ y ∈ scope.names, y.2 = .free → ∃ c, X.env.cells.lookup y.1 = some c := fun y hy e => by
    rcases free y hy e with z | z
    · exact I.ok.has y.1 (.inl z)
    · exact I.ok.has y.1 (.inr z)
  have tab : s.heap.get? P = some { cls := .none, data := .fields ps } := I.hok P _ eP
  have cl := closure_ok fr
  have gl := I.mod.glob.keeps I.bk
  have hd := TB.code.keeps I.bk
  have bm := TB.bm.keeps I.bk
  refine PySem.W.kla_eval dflt ?_
  cases e : codeAmong pos ps.toList with
  | none =>
    refine PySem.W.kla_makeFunction (mg := X.mg) (c := c) (P := P) (ps := ps) cl I.ok.glob gl code hd tab ok e TB.gP bm fun c2 ctv h' tk x1 x2 x3 rec x4 => ?_
    obtain ⟨c3, oc, vs, t, ec, r1, r2, r3⟩ := rec
    cases ec
    have new : H c2 = Option.none := I.hok.fresh x2
    obtain ⟨all1, ext⟩ := tabs_grow (pos := pos) all one eP ok old new
    rw [qn] at all1 ext
    have I1 := inv_table (t' := tk) (q := X.env.qual ++ "<lambda>") (more := #[rawInt pos.line, rawInt pos.col, .ref c2]) I eP x1 x4 x2 ⟨oc, vs, t, r1, r2, r3⟩
    have nF := I1.hok.fresh (Nat.le_refl h'.objs.size)
    have I2 := lam_laid (t := tk) (F := lamF X params scope c2) (body := body) (pm := (X.mg "__name__").getD .none) (ctv := ctv) rfl I1
    refine ⟨.ref h'.objs.size, _, I2, rfl, h _ c2 _ ?_ ?_ ?_ ?_ upd_same ?_⟩
    · intro b o eb nt
      have := ext b o eb nt
      exact upd_oth (ne_of_none this nF) this
    · exact fun b z => upd_none (upd_none (upd_none z))
    · exact all1.ext fun b o z => upd_oth (ne_of_none z nF) z
    · exact I.hok.fresh (Nat.le_trans x2 (Nat.le_of_lt x3))
    · exact upd_oth (Nat.ne_of_lt x3) upd_same
  | some cv =>
    obtain ⟨c2, ec, hc2⟩ := old pos cv e
    subst ec
    have hc2 : H c2 = some (CodeO c2 (nm pos.line pos.col)) := hc2
    rw [qn] at hc2
    refine PySem.W.kla_makeFunctionHit (mg := X.mg) (c := c) (P := P) (ps := ps) cl I.ok.glob gl code hd tab ok e bm fun ctv h' tk x1 x2 => ?_
    have I1 : Inv X pins σ H { s with heap := h', toks := tk } := I.kept x1
    have nF := I1.hok.fresh (Nat.le_refl h'.objs.size)
    have I2 := lam_laid (t := tk) (F := lamF X params scope c2) (body := body) (pm := (X.mg "__name__").getD .none) (ctv := ctv) rfl I1
    have oth : ∀ b o, H b = some o → upd H h'.objs.size (LamO h'.objs.size (lamF X params scope c2) body) b = some o := fun b o z => upd_oth (ne_of_none z nF) z
    exact ⟨.ref h'.objs.size, _, I2, rfl, h _ c2 _ (fun b o z _ => oth b o z) (fun b z => upd_none z) (all.ext oth) nF upd_same (oth _ _ hc2)⟩
/-- the end: what is known of the law at the head -/
theorem _root_.LamX.LawAtS.of {l : PySem.W.OpenLaw} {w : World} {K : PySem.W.Frag} {CX : CXT} {k n : Nat} {x : Str} {mg : Str → Option Value} {fa : Addr} {h : Heap} {cs : List (Addr × Addr)} {sp : Sp}
    (M : ∃ fd : FuncData, (∀ (s : Shared) (u : Value), BindsTo s fd ⟨[u], []⟩ [(x, u)]) ∧ ∀ base : Heap, K.In base → base.Ns mainGlobals mg → (∀ p ∈ cs, TabB base mg p.1 p.2) → FnOk l.prog w K mg base CX k fa fd [x] sp)
    (hsp : ∀ (H : Hp) (a : Addr) (ns : List Int), ns.length ≤ n → (∀ p ∈ cs, H p.2 = some (.tbl #[])) → SqL K H a (ns.map V.int) → sp [.ref a] H (fun v _ => v = .bl true) fun _ _ _ => False)
    (hT : ∀ p ∈ cs, h.get? p.2 = some { cls := .none, data := .fields #[] }) (nT : ∀ p ∈ cs, K.lookup p.2 = none) (C : ∀ p ∈ cs, PySem.W.CodeHd h p.1 p.2) : LawAtS l w K CX k n x mg fa h := by
  obtain ⟨fd, hb, hF⟩ := M
  exact ⟨fd, cs, sp, hT, nT, C, hb, fun H a ns h1 _ h3 h4 => hsp H a ns h1 h3 h4, hF⟩
end
abbrev s_is_word : Stmt := top 5
theorem sc_is_word : FnScope ["thing", "letter"] ["thing"] (defScope s_is_word) := ⟨rfl, rfl, rfl, by decide +kernel, rfl, by decide +kernel, by decide +kernel⟩
abbrev s_BadWordU_initU : Stmt := inClass (top 2) 0
abbrev s_TooManyU_initU : Stmt := inClass (top 3) 0
abbrev s_RuleU_initU : Stmt := inClass (top 14) 0
theorem sc_RuleU_initU : FnScope ["self", "form"] ["self", "form"] (defScope s_RuleU_initU) := ⟨rfl, rfl, rfl, by decide +kernel, rfl, by decide +kernel, by decide +kernel⟩
abbrev s_Rule_has : Stmt := inClass (top 14) 1
theorem sc_Rule_has : FnScope ["record"] ["record"] (defScope s_Rule_has) := ⟨rfl, rfl, rfl, by decide +kernel, rfl, by decide +kernel, by decide +kernel⟩
abbrev s_Rule_together : Stmt := inClass (top 14) 2
theorem sc_Rule_together : FnScope ["records", "record", "different"] ["records"] (defScope s_Rule_together) := ⟨rfl, rfl, rfl, by decide +kernel, rfl, by decide +kernel, by decide +kernel⟩
abbrev s_Rule_records : Stmt := inClass (top 14) 4
theorem sc_Rule_records : FnScope ["self"] ["self"] (defScope s_Rule_records) := ⟨rfl, rfl, rfl, by decide +kernel, rfl, by decide +kernel, by decide +kernel⟩
abbrev s_RuleU_andU : Stmt := inClass (top 14) 6
theorem sc_RuleU_andU : FnScope ["self", "other"] ["self", "other"] (defScope s_RuleU_andU) := ⟨rfl, rfl, rfl, by decide +kernel, rfl, by decide +kernel, by decide +kernel⟩
abbrev s_RuleU_orU : Stmt := inClass (top 14) 7
theorem sc_RuleU_orU : FnScope ["self", "other"] ["self", "other"] (defScope s_RuleU_orU) := ⟨rfl, rfl, rfl, by decide +kernel, rfl, by decide +kernel, by decide +kernel⟩
abbrev s_RuleU_rshiftU : Stmt := inClass (top 14) 8
theorem sc_RuleU_rshiftU : FnScope ["self", "other"] ["self", "other"] (defScope s_RuleU_rshiftU) := ⟨rfl, rfl, rfl, by decide +kernel, rfl, by decide +kernel, by decide +kernel⟩
abbrev s_RuleU_invertU : Stmt := inClass (top 14) 9
theorem sc_RuleU_invertU : FnScope ["self"] ["self"] (defScope s_RuleU_invertU) := ⟨rfl, rfl, rfl, by decide +kernel, rfl, by decide +kernel, by decide +kernel⟩
abbrev s_RuleU_strU : Stmt := inClass (top 14) 11
theorem sc_RuleU_strU : FnScope ["self"] ["self"] (defScope s_RuleU_strU) := ⟨rfl, rfl, rfl, by decide +kernel, rfl, by decide +kernel, by decide +kernel⟩
abbrev s_mentioned : Stmt := top 8
theorem sc_mentioned : FnScope ["form", "found", "part"] ["form"] (defScope s_mentioned) := ⟨rfl, rfl, rfl, by decide +kernel, rfl, by decide +kernel, by decide +kernel⟩
abbrev s_combined : Stmt := top 12
theorem sc_combined : FnScope ["word", "one", "other"] ["word", "one", "other"] (defScope s_combined) := ⟨rfl, rfl, rfl, by decide +kernel, rfl, by decide +kernel, by decide +kernel⟩
abbrev s_spelled : Stmt := top 10
theorem sc_spelled : FnScope ["form", "word"] ["form"] (defScope s_spelled) := ⟨rfl, rfl, rfl, by decide +kernel, rfl, by decide +kernel, by decide +kernel⟩
abbrev s_law_pool : Stmt := top 16
theorem sc_law_pool : FnScope ["_law_script", "_law_at", "_law_cell", "_law_size", "_law_seed"] ["_law_script", "_law_at"] (defScope s_law_pool) := ⟨rfl, rfl, rfl, by decide +kernel, rfl, by decide +kernel, by decide +kernel⟩
abbrev s_law_draw : Stmt := top 17
theorem sc_law_draw : FnScope ["_law_pool_here", "_law_many", "_law_digit", "_law_count", "_law_mixed"] ["_law_pool_here", "_law_many"] (defScope s_law_draw) := ⟨rfl, rfl, rfl, by decide +kernel, rfl, by decide +kernel, by decide +kernel⟩
abbrev s_law_word : Stmt := top 18
theorem sc_law_word : FnScope ["_law_pool_here", "_law_letters", "_law_k"] ["_law_pool_here"] (defScope s_law_word) := ⟨rfl, rfl, rfl, by decide +kernel, rfl, by decide +kernel, by decide +kernel⟩
abbrev s_law_made : Stmt := top 19
theorem sc_law_made : FnScope ["_law_make", "_law_rule", "e"] ["_law_make"] (defScope s_law_made) := ⟨rfl, rfl, rfl, by decide +kernel, rfl, by decide +kernel, by decide +kernel⟩
abbrev s_law_conjunction : Stmt := top 20
theorem sc_law_conjunction : FnScope ["_law_words", "_law_rule", "_law_word_here"] ["_law_words"] (defScope s_law_conjunction) := ⟨rfl, rfl, rfl, by decide +kernel, rfl, by decide +kernel, by decide +kernel⟩
abbrev s_law_eight : Stmt := top 21
theorem sc_law_eight : FnScope ["_law_w"] ["_law_w"] (defScope s_law_eight) := ⟨rfl, rfl, rfl, by decide +kernel, rfl, by decide +kernel, by decide +kernel⟩
abbrev s_law_odd : Stmt := top 22
theorem sc_law_odd : FnScope ["_law_pool_here", "_law_word_here"] ["_law_pool_here"] (defScope s_law_odd) := ⟨rfl, rfl, rfl, by decide +kernel, rfl, by decide +kernel, by decide +kernel⟩
abbrev s_law : Stmt := top 23
theorem sc_law : FnScope ["_law_script", "_law_at", "_law_pool_here", "_law_words", "_law_odd_here", "_law_k", "_law_given", "_law_told", "_law_many", "_law_start", "_law_one", "_law_size", "_law_other", "_law_both", "_law_due", "_law_before", "_law_makes", "_law_make"] ["_law_script"] (defScope s_law) := ⟨rfl, rfl, rfl, by decide +kernel, rfl, by decide +kernel, by decide +kernel⟩
abbrev ef_BadWord : List (Str × Sum Nat Str) := [("word", .inl 0)]
theorem ec_BadWord {K : PySem.W.Frag} {C fI : Addr} {nm qn : Str} {N : Addr} {bs bm : List Value} {sn : List Str} {sub : List Value} {ab : Bool} {col : Option Bool} {dd : Option Addr} {k0 k1 k2 k3 k5 : Option Value}
    {oc : Value} {od : Option Addr} {doc pm : Value} {an : Option Addr} {cda cc : Addr} {ct : Value} {osl : Array (Option Value)} {ccl : Value} {cdd : Option Addr} {vs : Array Value} {ccs : Array (Option Value)} {tf : Tok} {cl : Value} {cld : Option Addr} {csl : Array (Option Value)}
    (h1 : K.lookup C = some (excClassObj nm qn C N bs bm true sn sub ab col dd k0 k1 k2 k3 k5 "ValueError.__new__")) (h2 : PySem.HandSPX.refsVE bm = true) (h3 : PySem.W.findIn K (.ref C) "__setattr__" = some (some (.builtin "object.__setattr__")))
    (h4 : PySem.W.findIn K (.ref C) "__getattribute__" = some (some (.builtin "BaseException.__getattribute__"))) (h5 : PySem.W.findIn K (.ref C) "__getattr__" = some none) (h6 : PySem.W.findIn K (.ref C) "__init__" = some (some (.ref fI)))
    (h7 : PySem.W.typeIn K (.ref fI) = some (.type "function")) (h8 : PySem.W.keepIn K (.ref C) = true) (h9 : PySem.W.subIn K (.ref C) (.type "BaseException") = some true) (h10 : PySem.W.subIn K (.ref C) (.type "ValueError") = some true)
    (h11 : PySem.W.typeIn K (.ref C) = some (.type "type")) (h12 : PySem.W.hasDictIn K C = true) (h13 : PySem.W.ks_superIn K C C "__init__" = some (some (.builtin "ValueError.__init__"))) (h14 : PySem.W.mroIn K C (.ref C) = some true) (h15 : PySem.W.exmOne K (.ref C) (.ref C) = some true)
    (h16 : PySem.W.nsIn K cStatics "thirdparty.any" = some none) (h17 : K.lookup fI = some ⟨oc, od, .func (PySem.W.ksFn "__init__" "BadWord.__init__" (defArgs s_BadWordU_initU) (defBody s_BadWordU_initU) (defScope s_BadWordU_initU) .none .none doc pm an (.ref cda) ct cc), osl⟩) (h18 : PySem.W.codeIn K (.ref cda) "BadWord.__init__" = true)
    (h19 : K.lookup cda = some ⟨ccl, cdd, .fields vs, ccs⟩) (h20 : vs[2]? = some (.str P.main.file tf)) (h21 : K.lookup cc = some ⟨cl, cld, .cell (some (.ref C)), csl⟩) (nf0 : PySem.W.findIn K (.ref C) "word" = some none) : ErrC P K C fI s_BadWordU_initU "BadWord.__init__" ["word"] ef_BadWord := by
  refine ⟨⟨nm, qn, N, bs, bm, sn, sub, ab, col, dd, k0, k1, k2, k3, k5, h1, h2⟩, h3, h4, h5, ?_, h6, h7, h8, h9, h10, h11, h12, h13, h14, h15, h16, ⟨oc, od, doc, pm, an, cda, cc, ct, osl, ccl, cdd, vs, ccs, tf, cl, cld, csl, h17, h18, h19, h20, h21⟩, ⟨_, rfl, rfl⟩, (fun _ _ _ _ _ _ us hl => match us, hl with | [_, _], _ => rfl),
    ⟨_, _, _, _, _, _, _, _, _, rfl, (.par (i := 0) rfl .nil), fun L cda cc => ⟨_, rfl⟩⟩, rfl, rfl, rfl, by decide +kernel, by decide +kernel, rfl, rfl, by decide +kernel, by decide +kernel⟩
  intro p hp
  rcases List.mem_cons.mp hp with rfl | hp
  · exact nf0
  · exact absurd hp (by simp)
abbrev ef_TooMany : List (Str × Sum Nat Str) := [("what", .inl 0)]
theorem ec_TooMany {K : PySem.W.Frag} {C fI : Addr} {nm qn : Str} {N : Addr} {bs bm : List Value} {sn : List Str} {sub : List Value} {ab : Bool} {col : Option Bool} {dd : Option Addr} {k0 k1 k2 k3 k5 : Option Value}
    {oc : Value} {od : Option Addr} {doc pm : Value} {an : Option Addr} {cda cc : Addr} {ct : Value} {osl : Array (Option Value)} {ccl : Value} {cdd : Option Addr} {vs : Array Value} {ccs : Array (Option Value)} {tf : Tok} {cl : Value} {cld : Option Addr} {csl : Array (Option Value)}
    (h1 : K.lookup C = some (excClassObj nm qn C N bs bm true sn sub ab col dd k0 k1 k2 k3 k5 "ValueError.__new__")) (h2 : PySem.HandSPX.refsVE bm = true) (h3 : PySem.W.findIn K (.ref C) "__setattr__" = some (some (.builtin "object.__setattr__")))
    (h4 : PySem.W.findIn K (.ref C) "__getattribute__" = some (some (.builtin "BaseException.__getattribute__"))) (h5 : PySem.W.findIn K (.ref C) "__getattr__" = some none) (h6 : PySem.W.findIn K (.ref C) "__init__" = some (some (.ref fI)))
    (h7 : PySem.W.typeIn K (.ref fI) = some (.type "function")) (h8 : PySem.W.keepIn K (.ref C) = true) (h9 : PySem.W.subIn K (.ref C) (.type "BaseException") = some true) (h10 : PySem.W.subIn K (.ref C) (.type "ValueError") = some true)
    (h11 : PySem.W.typeIn K (.ref C) = some (.type "type")) (h12 : PySem.W.hasDictIn K C = true) (h13 : PySem.W.ks_superIn K C C "__init__" = some (some (.builtin "ValueError.__init__"))) (h14 : PySem.W.mroIn K C (.ref C) = some true) (h15 : PySem.W.exmOne K (.ref C) (.ref C) = some true)
    (h16 : PySem.W.nsIn K cStatics "thirdparty.any" = some none) (h17 : K.lookup fI = some ⟨oc, od, .func (PySem.W.ksFn "__init__" "TooMany.__init__" (defArgs s_TooManyU_initU) (defBody s_TooManyU_initU) (defScope s_TooManyU_initU) .none .none doc pm an (.ref cda) ct cc), osl⟩) (h18 : PySem.W.codeIn K (.ref cda) "TooMany.__init__" = true)
    (h19 : K.lookup cda = some ⟨ccl, cdd, .fields vs, ccs⟩) (h20 : vs[2]? = some (.str P.main.file tf)) (h21 : K.lookup cc = some ⟨cl, cld, .cell (some (.ref C)), csl⟩) (nf0 : PySem.W.findIn K (.ref C) "what" = some none) : ErrC P K C fI s_TooManyU_initU "TooMany.__init__" ["what"] ef_TooMany := by
  refine ⟨⟨nm, qn, N, bs, bm, sn, sub, ab, col, dd, k0, k1, k2, k3, k5, h1, h2⟩, h3, h4, h5, ?_, h6, h7, h8, h9, h10, h11, h12, h13, h14, h15, h16, ⟨oc, od, doc, pm, an, cda, cc, ct, osl, ccl, cdd, vs, ccs, tf, cl, cld, csl, h17, h18, h19, h20, h21⟩, ⟨_, rfl, rfl⟩, (fun _ _ _ _ _ _ us hl => match us, hl with | [_, _], _ => rfl),
    ⟨_, _, _, _, _, _, _, _, _, rfl, (.par (i := 0) rfl .nil), fun L cda cc => ⟨_, rfl⟩⟩, rfl, rfl, rfl, by decide +kernel, by decide +kernel, rfl, rfl, by decide +kernel, by decide +kernel⟩
  intro p hp
  rcases List.mem_cons.mp hp with rfl | hp
  · exact nf0
  · exact absurd hp (by simp)
structure Ad where
  is_word : Addr
  BadWord : Addr
  BadWordU_initU : Addr
  TooMany : Addr
  TooManyU_initU : Addr
  Rule : Addr
  RuleU_initU : Addr
  Rule_has : Addr
  p_Rule_has : Addr
  Rule_together : Addr
  p_Rule_together : Addr
  Rule_records : Addr
  RuleU_andU : Addr
  RuleU_orU : Addr
  RuleU_rshiftU : Addr
  RuleU_invertU : Addr
  RuleU_strU : Addr
  mentioned : Addr
  combined : Addr
  spelled : Addr
  law_pool : Addr
  law_draw : Addr
  law_word : Addr
  law_made : Addr
  law_conjunction : Addr
  law_eight : Addr
  law_odd : Addr
  law : Addr
  InnercommitsError : Addr
structure Fd where
  is_word : FuncData
  RuleU_initU : FuncData
  Rule_has : FuncData
  Rule_together : FuncData
  Rule_records : FuncData
  RuleU_andU : FuncData
  RuleU_orU : FuncData
  RuleU_rshiftU : FuncData
  RuleU_invertU : FuncData
  RuleU_strU : FuncData
  mentioned : FuncData
  combined : FuncData
  spelled : FuncData
  law_pool : FuncData
  law_draw : FuncData
  law_word : FuncData
  law_made : FuncData
  law_conjunction : FuncData
  law_eight : FuncData
  law_odd : FuncData
  law : FuncData
structure Txt (K : PySem.W.Frag) (mg : Str → Option Value) (a : Ad) (d : Fd) : Prop where
  is_word : Fun K "is_word" "is_word" s_is_word a.is_word d.is_word
  b_is_word : Binds K d.is_word ["thing"] []
  g_is_word : mg "is_word" = some (.ref a.is_word)
  g_BadWord : mg "BadWord" = some (.ref a.BadWord)
  e_BadWord : ErrC P K a.BadWord a.BadWordU_initU s_BadWordU_initU "BadWord.__init__" ["word"] ef_BadWord
  g_TooMany : mg "TooMany" = some (.ref a.TooMany)
  e_TooMany : ErrC P K a.TooMany a.TooManyU_initU s_TooManyU_initU "TooMany.__init__" ["what"] ef_TooMany
  v_MOST_RECORDS : ∃ u, mg "MOST_RECORDS" = some u ∧ RelV (.int 6) u
  g_Rule : mg "Rule" = some (.ref a.Rule)
  r_Rule : ClX.CRead K a.Rule (.type "type")
  k_Rule : Cls K a.Rule
  na_Rule_form : NoAttr K a.Rule "form"
  RuleU_initU : Fun K "__init__" "Rule.__init__" s_RuleU_initU a.RuleU_initU d.RuleU_initU
  b_RuleU_initU : Binds K d.RuleU_initU ["self", "form"] []
  mk_Rule : Mk K a.Rule a.RuleU_initU
  Rule_has : Fun K "has" "Rule.has" s_Rule_has a.Rule_has d.Rule_has
  b_Rule_has : Binds K d.Rule_has ["record"] []
  s_Rule_has : SMet K a.Rule (.type "type") "has" a.p_Rule_has a.Rule_has
  Rule_together : Fun K "together" "Rule.together" s_Rule_together a.Rule_together d.Rule_together
  s_Rule_together : SMet K a.Rule (.type "type") "together" a.p_Rule_together a.Rule_together
  Rule_records : Fun K "records" "Rule.records" s_Rule_records a.Rule_records d.Rule_records
  b_Rule_records : Binds K d.Rule_records ["self"] []
  m_Rule_records : Meth K a.Rule "records" a.Rule_records
  RuleU_andU : Fun K "__and__" "Rule.__and__" s_RuleU_andU a.RuleU_andU d.RuleU_andU
  b_RuleU_andU : Binds K d.RuleU_andU ["self", "other"] []
  m_RuleU_andU : Meth K a.Rule "__and__" a.RuleU_andU
  RuleU_orU : Fun K "__or__" "Rule.__or__" s_RuleU_orU a.RuleU_orU d.RuleU_orU
  b_RuleU_orU : Binds K d.RuleU_orU ["self", "other"] []
  m_RuleU_orU : Meth K a.Rule "__or__" a.RuleU_orU
  RuleU_rshiftU : Fun K "__rshift__" "Rule.__rshift__" s_RuleU_rshiftU a.RuleU_rshiftU d.RuleU_rshiftU
  b_RuleU_rshiftU : Binds K d.RuleU_rshiftU ["self", "other"] []
  m_RuleU_rshiftU : Meth K a.Rule "__rshift__" a.RuleU_rshiftU
  RuleU_invertU : Fun K "__invert__" "Rule.__invert__" s_RuleU_invertU a.RuleU_invertU d.RuleU_invertU
  b_RuleU_invertU : Binds K d.RuleU_invertU ["self"] []
  m_RuleU_invertU : Meth K a.Rule "__invert__" a.RuleU_invertU
  RuleU_strU : Fun K "__str__" "Rule.__str__" s_RuleU_strU a.RuleU_strU d.RuleU_strU
  b_RuleU_strU : Binds K d.RuleU_strU ["self"] []
  m_RuleU_strU : Meth K a.Rule "__str__" a.RuleU_strU
  sf_Rule : PySem.W.selfFirst K a.Rule = true
  mentioned : Fun K "mentioned" "mentioned" s_mentioned a.mentioned d.mentioned
  b_mentioned : Binds K d.mentioned ["form"] []
  g_mentioned : mg "mentioned" = some (.ref a.mentioned)
  combined : Fun K "combined" "combined" s_combined a.combined d.combined
  b_combined : Binds K d.combined ["word", "one", "other"] []
  g_combined : mg "combined" = some (.ref a.combined)
  spelled : Fun K "spelled" "spelled" s_spelled a.spelled d.spelled
  b_spelled : Binds K d.spelled ["form"] []
  g_spelled : mg "spelled" = some (.ref a.spelled)
  law_pool : Fun K "_law_pool" "_law_pool" s_law_pool a.law_pool d.law_pool
  b_law_pool : Binds K d.law_pool ["_law_script", "_law_at"] []
  g_law_pool : mg "_law_pool" = some (.ref a.law_pool)
  law_draw : Fun K "_law_draw" "_law_draw" s_law_draw a.law_draw d.law_draw
  b_law_draw : Binds K d.law_draw ["_law_pool_here", "_law_many"] []
  g_law_draw : mg "_law_draw" = some (.ref a.law_draw)
  law_word : Fun K "_law_word" "_law_word" s_law_word a.law_word d.law_word
  b_law_word : Binds K d.law_word ["_law_pool_here"] []
  g_law_word : mg "_law_word" = some (.ref a.law_word)
  law_made : Fun K "_law_made" "_law_made" s_law_made a.law_made d.law_made
  b_law_made : Binds K d.law_made ["_law_make"] []
  g_law_made : mg "_law_made" = some (.ref a.law_made)
  law_conjunction : Fun K "_law_conjunction" "_law_conjunction" s_law_conjunction a.law_conjunction d.law_conjunction
  b_law_conjunction : Binds K d.law_conjunction ["_law_words"] []
  g_law_conjunction : mg "_law_conjunction" = some (.ref a.law_conjunction)
  law_eight : Fun K "_law_eight" "_law_eight" s_law_eight a.law_eight d.law_eight
  b_law_eight : Binds K d.law_eight ["_law_w"] []
  g_law_eight : mg "_law_eight" = some (.ref a.law_eight)
  law_odd : Fun K "_law_odd" "_law_odd" s_law_odd a.law_odd d.law_odd
  b_law_odd : Binds K d.law_odd ["_law_pool_here"] []
  g_law_odd : mg "_law_odd" = some (.ref a.law_odd)
  law : Fun K "law" "law" s_law a.law d.law
  b_law : Binds K d.law ["_law_script"] []
  g_law : mg "law" = some (.ref a.law)
  n_len : mg "len" = none
  n_isinstance : mg "isinstance" = none
  n_str : mg "str" = none
  n_super : mg "super" = none
  n_sorted : mg "sorted" = none
  n_set : mg "set" = none
  n_abs : mg "abs" = none
  n_int : mg "int" = none
  n_range : mg "range" = none
  n_max : mg "max" = none
  n_min : mg "min" = none
  g_InnercommitsError : mg "InnercommitsError" = some (.ref a.InnercommitsError)
  x_TooMany_BadWord : PySem.W.exmOne K (.ref a.TooMany) (.ref a.BadWord) = some false
  C_law : FunC K "law" "law" s_law a.law d.law 270

section
variable {w : World} {K : PySem.W.Frag} {mg : Str → Option Value} {base : Heap} {a : Ad} {d : Fd}
theorem ok_law_draw (T : Txt K mg a d) : FnOk P w K mg base CX0 1 a.law_draw d.law_draw ["_law_pool_here", "_law_many"] spDraw := by
  refine T.law_draw.ok sc_law_draw (fun vs H Q E h => ?_) (fun cdv A outer s H vs Q E hr h => ?_)
  · obtain ⟨p, m, c, o, rfl, _⟩ := h
    rfl
  · obtain ⟨p, m, c, o, rfl, hp, ⟨x, y, n, rfl, hx, hy, hy2, hn, hn2⟩, hm, hm2, hc, k⟩ := h
    have hw : ∀ i : Int, CDivW i m := fun i => wide_div (b := 200) hm (by omega) (by decide) (by decide)
    have e1 : (b2 : Int) → 0 ≤ b2 → b2 < 2 ^ 62 → CPow (b2 + 48611 * (n + 1)) 3 := fun b2 h1 h2 => ⟨by decide, by decide, by omega⟩
    have e2 : (b2 : Int) → 0 ≤ b2 → b2 < 2 ^ 62 → CPow (b2 + 104729 * (n + 1)) 3 := fun b2 h1 h2 => ⟨by decide, by decide, by omega⟩
    have e3 : ∀ i j : Int, -1000000 < i → i < 1000000 → CMul i j := fun i j h1 h2 => .inl ⟨by omega, by omega⟩
    refine ⟨_, (pss_cons (ps_if (pt_cmpR op_gt (pe_ix ix_list (pv 0) pe_int (fun _ _ => rfl)) pe_int (nomark _)) (pss_cons (ps_set (i := 2) sc_law_draw.nd rfl (Or.inl rfl) (pe_op op_mod (pe_callTy call_int1 (by rfl) T.n_int (by decide +kernel) (pa_cons (pe_ix ix_list (pv 0) pe_int (fun _ _ => rfl)) pa_nil)) (pv 1)))
  (pss_cons (ps_asg (pe_op op_fdivW (pe_ix ix_list (pv 0) pe_int (fun _ _ => rfl)) (pv 1)) (pg_sub (pv 0) pe_int set_list))
  (pss_one (ps_ret (pv 2))))) pss_nil)
  (pss_cons (ps_set (i := 3) sc_law_draw.nd rfl (Or.inl rfl) (pe_op op_add (pe_ix ix_list (pv 0) pe_int (fun _ _ => rfl)) pe_int))
  (pss_cons (ps_asg (pv 3) (pg_sub (pv 0) pe_int set_list))
  (pss_cons (ps_set (i := 4) sc_law_draw.nd rfl (Or.inl rfl) (pe_op op_mod (pe_callTy call_int1 (by rfl) T.n_int (by decide +kernel) (pa_cons (pe_op op_add (pe_op op_pow (pe_op op_add (pe_ix ix_list (pv 0) pe_int (fun _ _ => rfl)) (pe_op op_mul pe_int (pv 3))) pe_int) (pe_op op_mul pe_int (pv 3))) pa_nil)) pe_int))
  (pss_cons (ps_set (i := 4) sc_law_draw.nd rfl (Or.inl rfl) (pe_op op_mod (pe_callTy call_int1 (by rfl) T.n_int (by decide +kernel) (pa_cons (pe_op op_pow (pe_op op_add (pv 4) (pe_op op_mul pe_int (pv 3))) pe_int) pa_nil)) pe_int))
  (pss_one (ps_ret (pe_op op_mod (pe_callTy call_int1 (by rfl) T.n_int (by decide +kernel) (pa_cons (pe_op op_fdivW (pv 4) pe_int) pa_nil)) (pv 1))))))))), ?_⟩
    dsimp only [cxOf]
    walk_at "rd"
    refine ite2 (fun c0 => ?_) (fun c0 => ?_)
    · have c1 : 0 < x := of_decide_eq_true c0
      walk_at "rd"
      refine And.intro (hw _) ?_
      walk_at "rd"
      refine k _ _ (Int.emod_nonneg _ (by omega)) (Int.emod_lt_of_pos _ hm) ⟨_, _, _, rfl, Int.ediv_nonneg (by omega) (by omega), hy, hy2, hn, by omega⟩
    · walk_at "rd"
      refine And.intro (e1 _ hy hy2) ?_
      walk_at "rd"
      refine And.intro (e2 _ (Int.emod_nonneg _ (by decide)) (Int.lt_trans (Int.emod_lt_of_pos _ (by decide)) (by decide))) ?_
      walk_at "rd"
      refine k _ _ (Int.emod_nonneg _ (by omega)) (Int.emod_lt_of_pos _ hm) ⟨_, _, _, rfl, hx, hy, hy2, by omega, by omega⟩
theorem ok_law_pool (T : Txt K mg a d) : FnOk P w K mg base CX0 1 a.law_pool d.law_pool ["_law_script", "_law_at"] (spPool K) := by
  refine T.law_pool.ok sc_law_pool (fun vs H Q E h => ?_) (fun cdv A outer s H vs Q E hr h => ?_)
  · obtain ⟨p, ns, i, rfl, _⟩ := h
    rfl
  · obtain ⟨p, ns, i, rfl, hS, hi, k⟩ := h
    have e3 : ∀ i j : Int, -1000000 < i → i < 1000000 → CMul i j := fun i j h1 h2 => .inl ⟨by omega, by omega⟩
    have e4 : ∀ i j : Int, -1000000 < j → j < 1000000 → CMul i j := fun i j h1 h2 => .inr ⟨by omega, by omega⟩
    refine ⟨_, (pss_cons (ps_set (i := 2) sc_law_pool.nd rfl (Or.inl rfl) (pe_ifExp (pt_cmpR op_lt (pv 1) (pe_callB call_len_seq (by rfl) T.n_len PySem.boot_len (pa_cons (pv 0) pa_nil)) (nomark _)) (pe_ix ix_list (pv 0) (pv 1) (fun _ _ => rfl)) pe_int))
  (pss_cons (ps_set (i := 3) sc_law_pool.nd rfl (Or.inl rfl) (pe_callB call_abs (by rfl) T.n_abs (by decide +kernel) (pa_cons (pv 2) pa_nil)))
  (pss_cons (ps_set (i := 4) sc_law_pool.nd rfl (Or.inl rfl) (pe_op op_mod (pe_callTy call_int1 (by rfl) T.n_int (by decide +kernel) (pa_cons (pe_op op_add (pe_op op_add (pe_op op_mul (pv 3) pe_int) (pe_op op_mul pe_int (pv 1))) (pe_callTy call_int1 (by rfl) T.n_int (by decide +kernel) (pa_cons (pe_cmpR op_lt (pv 2) pe_int (nomark _)) pa_nil))) pa_nil)) pe_int))
  (pss_one (ps_ret (pe_lst (pa_cons (pe_ifExp (pt_cmpR op_ge (pv 3) (pe_op op_pow pe_int pe_int) (nomark _)) (pv 3) pe_int) (pa_cons (pe_op op_add (pv 4) pe_int) (pa_cons pe_int pa_nil))))))))), ?_⟩
    dsimp only [cxOf]
    walk_at "rd"
    refine ite2 (fun c0 => ?_) (fun c0 => ?_)
    · have c1 : (i : Int) < ((ns.map V.int).length : Int) := of_decide_eq_true c0
      rw [List.length_map] at c1
      have c2 : i < ns.length := by omega
      have hz : (ns.map V.int)[i]? = some (.int ns[i]) := by
        rw [List.getElem?_map, List.getElem?_eq_getElem c2]; rfl
      walk_at "rd"
      refine And.intro (atI_nat hz) ?_
      walk_at "rd"
      refine ite2 (fun c2 => ?_) (fun c2 => ?_)
      all_goals
        walk_at "rd"
        intro q hq
        exact k q _ hq ⟨_, _, _, rfl, (by first | (split <;> omega) | decide), Int.add_nonneg (Int.emod_nonneg _ (by decide)) (by decide), Int.lt_trans (Int.add_lt_add_right (Int.emod_lt_of_pos _ (by decide)) _) (by decide), Int.le_refl 0, Int.le_refl 0⟩
    · walk_at "rd"
      intro q hq
      exact k q _ hq ⟨_, _, _, rfl, Int.le_refl 0, Int.add_nonneg (Int.emod_nonneg _ (by decide)) (by decide), Int.lt_trans (Int.add_lt_add_right (Int.emod_lt_of_pos _ (by decide)) _) (by decide), Int.le_refl 0, Int.le_refl 0⟩
theorem ok_law_word (T : Txt K mg a d) : FnOk P w K mg base CX0 2 a.law_word d.law_word ["_law_pool_here"] spWord := by
  have G_law_draw : FnOk P w K mg base CX0 1 a.law_draw d.law_draw ["_law_pool_here", "_law_many"] spDraw := ok_law_draw T
  refine T.law_word.ok sc_law_word (fun vs H Q E h => ?_) (fun cdv A outer s H vs Q E hr h => ?_)
  · obtain ⟨p, c, o, rfl, _⟩ := h
    rfl
  · obtain ⟨p, c, o, rfl, hp, hc, hb, k⟩ := h
    refine ⟨_, (pss_cons (ps_set (i := 1) sc_law_word.nd rfl (Or.inr rfl) pe_str)
  (pss_one (ps_ret (pe_join pe_str (pe_lc (own := [("_law_k", 2)]) (tt := tYes) rfl sc_law_word.nd (pi_range1 (by rfl) T.n_range (pa_cons (pe_op op_add pe_int (pe_call G_law_draw (hr.mono (by decide)) (by rfl) T.g_law_draw T.law_draw.kp T.b_law_draw .nil pass0 (pa_cons (pv 0) (pa_cons pe_int pa_nil)))) pa_nil)) (blkOk_by (own := [("_law_k", 2)]) (N := ["_law_pool_here", "_law_letters", "_law_k"]) (sc := defScope s_law_word) (by decide +kernel)) (fun _ _ _ _ _ => (pg_name (i := 2) sc_law_word.nd rfl (Or.inl rfl))) (fun _ _ _ _ _ => pts_nil) (fun _ _ _ _ _ => (pe_ix ix_str (pv 1) (pe_call G_law_draw (hr.mono (by decide)) (by rfl) T.g_law_draw T.law_draw.kp T.b_law_draw .nil pass0 (pa_cons (pv 0) (pa_cons pe_int pa_nil))) (fun _ _ => rfl)))))))), ?_⟩
    dsimp only [cxOf]
    walk_at "rd"
    intro r o1 r0 r1 h1
    walk_at "rd"
    intro D hD
    refine lc_letters (c := c + 1) hD upd_same h1 (by omega) (by omega) rfl rfl (by decide) (by decide) fun H' cs o2 e1 e2 e3 e4 e5 e6 => ?_
    refine ⟨_, _, cs.map chr1, rfl, rfl, Or.inl (SqL.of e6), ?_, ?_⟩
    · rw [sum_chr, e1]
      have : (Str.ofString "").length = 0 := by decide +kernel
      rw [this]; omega
    · rw [join_chr]
      refine k _ o2 _ ⟨?_, ?_, e2⟩ (e5.mono (by omega)) e4 (Kp.refl.set1.trans e3)
      · show 1 ≤ cs.length
        omega
      · show cs.length ≤ 8
        omega
theorem ok_is_word (T : Txt K mg a d) : FnOk P w K mg base CX0 1 a.is_word d.is_word ["thing"] spIsWord := by
  refine T.is_word.ok sc_is_word (fun vs H Q E h => ?_) (fun cdv A outer s H vs Q E hr h => ?_)
  · obtain ⟨v, rfl, _⟩ := h
    rfl
  · obtain ⟨v, rfl, hv, k⟩ := h
    refine ⟨_, (pss_cons (ps_if (PW.pt (pw_or (pt_not (pt_val (pe_callB call_isi (by rfl) T.n_isinstance (by decide +kernel) (pa_cons (pv 0) (pa_cons (pe_bltn (v := .ty "str") (u := .type "str") (by rfl) T.n_str (by decide +kernel) rfl) pa_nil))))) (pw_or1 (pt_not (pt_chain op_le op_le pe_int (pe_callB call_len_str (by rfl) T.n_len PySem.boot_len (pa_cons (pv 0) pa_nil)) pe_int))))) (pss_one (ps_ret pe_bl)) pss_nil)
  (pss_cons (ps_for PassesOwn.never rfl (pi_str (pv 0)) (pg_name (i := 1) sc_is_word.nd rfl (Or.inl rfl))
  (pss_one (ps_if (pt_not (pt_chain op_le_str op_le_str pe_str (pv 1) pe_str)) (pss_one (ps_ret pe_bl)) pss_nil)))
  (pss_one (ps_ret pe_bl)))), ?_⟩
    dsimp only [cxOf]
    obtain ⟨ty, h1, h2⟩ := hv.isi (K := K)
    refine ⟨_, rfl, _, _, _, _, _, rfl, ClsV.ty _, h1, h2, _, rfl, ?_⟩
    cases hv with
    | str z hz ha0 =>
      refine iteF ?_
      have hs : z.length ≤ sizeLine := by rw [sizeLine_eq]; omega
      refine ⟨_, rfl, z, rfl, hs, ?_⟩
      walk_at "rd"
      by_cases c1 : (1 : Int) ≤ (z.length : Int)
      · rw [decide_eq_true c1]
        refine iteT ?_
        walk_at "rd"
        by_cases c2 : (z.length : Int) ≤ 8
        · rw [decide_eq_true c2]
          refine iteF ?_
          walk_at "rd"
          refine for_it (walk_str (z := z)) (fun i σ H' => H' = H ∧ ∃ v, σ = [some (.str z), v] ∧ (z.cps.toList.take i).all okC = true) ?_ (fun _ _ _ _ _ => trivial) ?_ ?_
          · exact ⟨rfl, none, rfl, rfl⟩
          · rintro i x σ H1 H2 hi ⟨rfl, v, rfl, ha⟩ ⟨rfl, c, hc, rfl⟩
            have hc' : z.cps.toList[i]? = some c := by rw [Array.getElem?_toList]; exact hc
            walk_at "rd"
            rw [le_a]
            by_cases d1 : 97 ≤ c
            · rw [decide_eq_true d1]
              refine iteT ?_
              walk_at "rd"
              rw [le_z]
              by_cases d2 : c ≤ 122
              · rw [decide_eq_true d2]
                refine iteF ?_
                refine ⟨rfl, _, rfl, all_take hc' ha ?_⟩
                unfold okC; rw [decide_eq_true d1, decide_eq_true d2]; rfl
              · rw [decide_eq_false d2]
                refine iteT ?_
                have : wordB (.str z) = false := by
                  show wordS z = false
                  unfold wordS; rw [all_no hc' (show okC c = false by unfold okC; rw [decide_eq_false d2, Bool.and_false]), Bool.and_false]
                rw [this] at k
                exact k
            · rw [decide_eq_false d1]
              refine iteF ?_
              walk_at "rd"
              refine iteT ?_
              have : wordB (.str z) = false := by
                show wordS z = false
                unfold wordS; rw [all_no hc' (show okC c = false by unfold okC; rw [decide_eq_false d1, Bool.false_and]), Bool.and_false]
              rw [this] at k
              exact k
          · rintro σ H1 ⟨rfl, v, rfl, ha⟩
            have e : (z.cps.toList.take z.cps.size) = z.cps.toList := List.take_of_length_le (by simp)
            rw [e] at ha
            have : wordB (.str z) = true := by
              show wordS z = true
              unfold wordS; rw [ha, decide_eq_true (show 1 ≤ z.length by omega), decide_eq_true (show z.length ≤ 8 by omega)]; rfl
            rw [this] at k
            exact k
        · rw [decide_eq_false c2]
          refine iteT ?_
          have : wordB (.str z) = false := by
            show wordS z = false
            unfold wordS; rw [decide_eq_false (show ¬ z.length ≤ 8 by omega), Bool.and_false, Bool.false_and]
          rw [this] at k
          exact k
      · rw [decide_eq_false c1]
        refine iteF ?_
        walk_at "rd"
        refine iteT ?_
        have : wordB (.str z) = false := by
          show wordS z = false
          unfold wordS; rw [decide_eq_false (show ¬ 1 ≤ z.length by omega), Bool.false_and, Bool.false_and]
        rw [this] at k
        exact k
    | int i => exact iteT (iteT k)
    | bl b => exact iteT (iteT k)
    | non => exact iteT (iteT k)
    | lst h => exact iteT (iteT k)
    | tup h => exact iteT (iteT k)
/-! ### rules: their forms -/
inductive Fm
  | has (z : Str)
  | tog (zs : List Str)
  | alw
  | nt (f : Fm)
  | bin (w : Str) (f g : Fm)
def Fm.dep : Fm → Nat
  | .nt f => f.dep + 1
  | .bin _ f g => max f.dep g.dep + 1
  | _ => 0
def FmAt (H : Hp) : Fm → V → Prop
  | .has z, v => ∃ p, v = .ref p ∧ H p = some (.tup [.str "has", .str z])
  | .tog zs, v => ∃ p, v = .ref p ∧ H p = some (.tup (.str "together" :: zs.map V.str))
  | .alw, v => ∃ p, v = .ref p ∧ H p = some (.tup [.str "always"])
  | .nt f, v => ∃ p x, v = .ref p ∧ H p = some (.tup [.str "not", x]) ∧ FmAt H f x
  | .bin w f g, v => ∃ p x y, v = .ref p ∧ H p = some (.tup [.str w, x, y]) ∧ FmAt H f x ∧ FmAt H g y
/-- tuples and instances stay -/
def Im (H H' : Hp) : Prop := (∀ p xs, H p = some (.tup xs) → H' p = some (.tup xs)) ∧ ∀ p C dx fs, H p = some (.ins C dx fs) → H' p = some (.ins C dx fs)
theorem Im.refl {H : Hp} : Im H H := ⟨fun _ _ h => h, fun _ _ _ _ h => h⟩
theorem Im.trans {H H1 H2 : Hp} (a : Im H H1) (b : Im H1 H2) : Im H H2 := ⟨fun p xs h => b.1 p xs (a.1 p xs h), fun p C dx fs h => b.2 p C dx fs (a.2 p C dx fs h)⟩
theorem _root_.L2.Same.im {H H' : Hp} (s : Same H H') : Im H H' := ⟨fun p xs h => s _ _ h, fun p C dx fs h => s _ _ h⟩
/-- what may change holds no tuple and no instance -/
theorem Kp.im {S : Addr → Prop} {H H' : Hp} (k : Kp S H H') (n : ∀ b, S b → ∃ xs, H b = some (.lst xs)) : Im H H' := by
  refine ⟨fun p xs h => k _ _ h fun z => ?_, fun p C dx fs h => k _ _ h fun z => ?_⟩
  · obtain ⟨ys, e⟩ := n p z
    rw [e] at h; cases h
  · obtain ⟨ys, e⟩ := n p z
    rw [e] at h; cases h
theorem FmAt.im {H H' : Hp} (s : Im H H') : ∀ {f : Fm} {v : V}, FmAt H f v → FmAt H' f v
  | .has _, _, ⟨p, e, h⟩ => ⟨p, e, s.1 _ _ h⟩
  | .tog _, _, ⟨p, e, h⟩ => ⟨p, e, s.1 _ _ h⟩
  | .alw, _, ⟨p, e, h⟩ => ⟨p, e, s.1 _ _ h⟩
  | .nt _, _, ⟨p, x, e, h, h1⟩ => ⟨p, x, e, s.1 _ _ h, h1.im s⟩
  | .bin _ _ _, _, ⟨p, x, y, e, h, h1, h2⟩ => ⟨p, x, y, e, s.1 _ _ h, h1.im s, h2.im s⟩
def Fm.recs : Fm → List Str
  | .has z => sortT (setT [z])
  | .tog zs => sortT (setT zs)
  | .alw => sortT (setT [])
  | .nt f => sortT (setT f.recs)
  | .bin _ f g => sortT (setT (f.recs ++ g.recs))
abbrev opsS : List Str := ["and", "or", "needs"]
def Fm.Ok : Fm → Prop
  | .has z => IsWord z
  | .tog zs => (∀ z ∈ zs, IsWord z) ∧ zs.length ≤ 6
  | .alw => True
  | .nt f => f.Ok
  | .bin w f g => w ∈ opsS ∧ f.Ok ∧ g.Ok ∧ (Fm.bin w f g).recs.length ≤ 6
def Fm.sat (ks : List Str) : Fm → Bool
  | .has z => decide (z ∈ ks)
  | .tog zs => inV (.int ((zs.filter fun z => decide (z ∈ ks)).length : Int)) [.int 0, .int ((zs.length : Int) + 1 - 1)]
  | .alw => true
  | .nt f => !f.sat ks
  | .bin w f g => if w = "and" then (f.sat ks && g.sat ks) else if w = "or" then (f.sat ks || g.sat ks) else (!f.sat ks || g.sat ks)
theorem setT_le {xs : List Str} : (setT xs).length ≤ xs.length := setT_len
theorem Fm.Ok.len : ∀ {f : Fm}, f.Ok → f.recs.length ≤ 6
  | .has z, _ => by
    show (sortT (setT [z])).length ≤ 6
    rw [sortT_len]
    have := setT_len (xs := [z])
    rw [List.length_singleton] at this
    omega
  | .tog zs, h => by
    show (sortT (setT zs)).length ≤ 6
    rw [sortT_len]
    have := setT_len (xs := zs)
    have := h.2
    omega
  | .alw, _ => by
    show (sortT (setT [])).length ≤ 6
    rw [sortT_len]
    have := setT_len (xs := [])
    rw [List.length_nil] at this
    omega
  | .nt f, h => by
    show (sortT (setT f.recs)).length ≤ 6
    rw [sortT_len]
    have := setT_len (xs := f.recs)
    have := Fm.Ok.len (f := f) h
    omega
  | .bin w f g, h => h.2.2.2
theorem Fm.Ok.words : ∀ {f : Fm}, f.Ok → ∀ z ∈ f.recs, IsWord z
  | .has y, h, z, hz => by
    have hz : z ∈ sortT (setT [y]) := hz
    rw [sortT_mem, setT_mem] at hz
    exact List.mem_singleton.mp hz ▸ h
  | .tog zs, h, z, hz => by
    have hz : z ∈ sortT (setT zs) := hz
    rw [sortT_mem, setT_mem] at hz
    exact h.1 z hz
  | .alw, _, z, hz => by
    have hz : z ∈ sortT (setT []) := hz
    rw [sortT_mem, setT_mem] at hz
    cases hz
  | .nt f, h, z, hz => by
    have hz : z ∈ sortT (setT f.recs) := hz
    rw [sortT_mem, setT_mem] at hz
    exact Fm.Ok.words (f := f) h z hz
  | .bin w f g, h, z, hz => by
    have hz : z ∈ sortT (setT (f.recs ++ g.recs)) := hz
    rw [sortT_mem, setT_mem] at hz
    rcases List.mem_append.mp hz with hz | hz
    · exact Fm.Ok.words (f := f) h.2.1 z hz
    · exact Fm.Ok.words (f := g) h.2.2.1 z hz
/-- a rule object -/
def RuAt (a : Ad) (H : Hp) (f : Fm) (v : V) : Prop := ∃ p dx x, v = .ref p ∧ H p = some (.ins a.Rule dx [("form", x)]) ∧ FmAt H f x ∧ f.Ok
theorem RuAt.im {a : Ad} {H H' : Hp} {f : Fm} {v : V} (h : RuAt a H f v) (s : Im H H') : RuAt a H' f v := by
  obtain ⟨p, dx, x, e, h1, h2, h3⟩ := h
  exact ⟨p, dx, x, e, s.2 _ _ _ _ h1, h2.im s, h3⟩
/-! ### allows -/
def spAllows (K : PySem.W.Frag) (n : Nat) : Sp := fun vs H Q _ => ∃ f v q ks, vs = [v, .ref q] ∧ Fm.dep f < n ∧ f.Ok ∧ FmAt H f v ∧ (SqL K H q (ks.map V.str) ∨ SqT K H q (ks.map V.str)) ∧ ∀ H', Same H H' → Q (.bl (f.sat ks)) H'
theorem sq_same {K : PySem.W.Frag} {H H' : Hp} {q : Addr} {xs : List V} (h : SqL K H q xs ∨ SqT K H q xs) (s : Same H H') : SqL K H' q xs ∨ SqT K H' q xs := h.imp (fun z => s.seq z) (fun z => by
  rcases z with (z | ⟨o, z⟩) | z
  · exact .inl (.inl (s _ _ z))
  · exact .inl (.inr ⟨o, s _ _ z⟩)
  · exact .inr z)
theorem inV_strs {z : Str} {l : List Str} : inV (.str z) (l.map V.str) = decide (z ∈ l) := by
  unfold inV
  rw [List.any_map]
  induction l with
  | nil => rfl
  | cons n r ih =>
    rw [List.any_cons, ih]
    show ((n == z) || decide (z ∈ r)) = _
    by_cases h : n = z
    · subst h
      simp
    · have h' : ¬ z = n := fun q => h q.symm
      simp [h, h']
theorem flat_strs {l : List Str} : (l.map V.str).all flatV = true := by
  rw [List.all_map]
  exact List.all_eq_true.mpr fun _ _ => rfl
theorem cut1 {x : V} {xs : List V} : cutV (x :: xs) (some 1) none = xs := by
  show List.take (HT.sIx (x :: xs).length (x :: xs).length none - HT.sIx (x :: xs).length 0 (some 1)) (List.drop (HT.sIx (x :: xs).length 0 (some 1)) (x :: xs)) = xs
  have e1 : HT.sIx (x :: xs).length 0 (some 1) = 1 := by
    unfold HT.sIx
    simp
  have e2 : HT.sIx (x :: xs).length (x :: xs).length none = xs.length + 1 := by
    unfold HT.sIx
    simp
  rw [e1, e2]
  simp
theorem fn_none {P : Program} {w : World} {K : PySem.W.Frag} {mg : Str → Option Value} {base : Heap} {f : Addr} {fd : FuncData} {ps : List Str} {sp : Sp} {k : Nat} (h : ∀ vs H Q E, ¬ sp vs H Q E) : FnOk P w K mg base CX0 k f fd ps sp :=
  ⟨fun vs H Q E z => (h vs H Q E z).elim, fun A outer s H args us vs Q E hr e0 b r z => (h vs H Q E z).elim⟩
/-! ### mentioned -/
def spMent (n : Nat) : Sp := fun vs H Q _ => ∃ f v, vs = [v] ∧ Fm.dep f < n ∧ f.Ok ∧ FmAt H f v ∧ ∀ H' q, Same H H' → H' q = some (.lst (f.recs.map V.str)) → H q = none → Q (.ref q) H'
theorem ment_cs {H : Hp} {n : Nat} {f : Fm} {v : V} (hd : f.dep < n + 1) (ho : f.Ok) (hv : FmAt H f v) :
    (∃ p hd0 zs, v = .ref p ∧ H p = some (.tup (.str hd0 :: zs.map V.str)) ∧ (hd0 = "has" ∨ hd0 = "together") ∧ zs.length ≤ 6 ∧ f.recs = sortT (setT zs)) ∨
    ∃ p hd0, ∃ ps : List (Fm × V), v = .ref p ∧ H p = some (.tup (.str hd0 :: ps.map (·.2))) ∧ inV (.str hd0) [.str "has", .str "together"] = false ∧ (∀ e ∈ ps, e.1.dep < n ∧ e.1.Ok ∧ FmAt H e.1 e.2) ∧ ps.length ≤ 2 ∧ f.recs = sortT (setT ((ps.map (·.1.recs)).flatten)) := by
  cases f with
  | has z =>
    obtain ⟨p, rfl, hp⟩ := hv
    exact .inl ⟨p, "has", [z], rfl, hp, .inl rfl, by simp, rfl⟩
  | tog zs =>
    obtain ⟨p, rfl, hp⟩ := hv
    exact .inl ⟨p, "together", zs, rfl, hp, .inr rfl, ho.2, rfl⟩
  | alw =>
    obtain ⟨p, rfl, hp⟩ := hv
    exact .inr ⟨p, "always", [], rfl, hp, by decide +kernel, (fun e he => nomatch he), by simp, rfl⟩
  | nt g =>
    obtain ⟨p, x, rfl, hp, hx⟩ := hv
    have hd : g.dep + 1 < n + 1 := hd
    refine .inr ⟨p, "not", [(g, x)], rfl, hp, by decide +kernel, fun e he => ?_, by simp, ?_⟩
    · cases List.mem_singleton.mp he
      exact ⟨by show g.dep < n; omega, ho, hx⟩
    · show sortT (setT g.recs) = _
      simp
  | bin w' g h =>
    obtain ⟨p, x, y, rfl, hp, hx, hy⟩ := hv
    have hd : max g.dep h.dep + 1 < n + 1 := hd
    obtain ⟨o1, o2, o3, o4⟩ := ho
    have o1 : w' = "and" ∨ w' = "or" ∨ w' = "needs" := by simpa [opsS] using o1
    refine .inr ⟨p, w', [(g, x), (h, y)], rfl, hp, by rcases o1 with rfl | rfl | rfl <;> decide +kernel, fun e he => ?_, by simp, ?_⟩
    · rcases List.mem_cons.mp he with rfl | he
      · exact ⟨by simp only; omega, o2, hx⟩
      · cases List.mem_singleton.mp he
        exact ⟨by simp only; omega, o3, hy⟩
    · show sortT (setT (g.recs ++ h.recs)) = _
      simp
theorem nwhole {x : V} {xs : List V} : ¬ (HT.sIx (x :: xs).length 0 (some 1) = 0 ∧ HT.sIx (x :: xs).length (x :: xs).length none = (x :: xs).length) := by
  rintro ⟨z, _⟩
  unfold HT.sIx at z
  simp at z
theorem at0 {x : V} {xs : List V} : atI (x :: xs) 0 = some x := (atI_nat rfl : atI (x :: xs) ((0 : Nat) : Int) = some x)
theorem flat_len {ps : List (Fm × V)} (h : ∀ e ∈ ps, e.1.Ok) : ((ps.map (·.1.recs)).flatten).length ≤ 6 * ps.length := by
  induction ps with
  | nil => simp
  | cons e r ih =>
    have h1 := (h e List.mem_cons_self).len
    have h2 := ih fun x hx => h x (List.mem_cons_of_mem _ hx)
    simp only [List.map_cons, List.flatten_cons, List.length_append, List.length_cons]
    omega
theorem ok_mentioned (T : Txt K mg a d) : ∀ n, FnOk P w K mg base CX0 n a.mentioned d.mentioned ["form"] (spMent n)
  | 0 => fn_none fun vs H Q E ⟨f, v, _, h, _⟩ => by omega
  | n + 1 => by
    have G_mentioned := ok_mentioned T n
    refine T.mentioned.ok sc_mentioned (fun vs H Q E h => ?_) (fun cdv A outer s H vs Q E hr h => ?_)
    · obtain ⟨f, v, rfl, _⟩ := h
      rfl
    · obtain ⟨f, v, rfl, hd, ho, hv, k⟩ := h
      refine ⟨_, (pss_cons (ps_if (pt_cmpR op_in_seq (pe_ix ix_tup (pv 0) pe_int (fun _ _ => rfl)) (pe_tup (pa_cons pe_str (pa_cons pe_str pa_nil))) (by rfl)) (pss_one (ps_ret (pe_callB (cr_sortTS rfl) (by rfl) T.n_sorted (by decide +kernel) (pa_cons (pe_callTy (cr_setTST rfl) (by rfl) T.n_set (by decide +kernel) (pa_cons (pe_slice sl_tup (pv 0) (po_some pe_int) po_none) pa_nil)) pa_nil)))) pss_nil)
  (pss_cons (ps_set (i := 1) sc_mentioned.nd rfl (Or.inl rfl) (pe_lst pa_nil))
  (pss_cons (ps_for PassesOwn.never rfl (pi_tup (pe_slice sl_tup (pv 0) (po_some pe_int) po_none)) (pg_name (i := 2) sc_mentioned.nd rfl (Or.inl rfl))
  (pss_one (ps_set (i := 1) sc_mentioned.nd rfl (Or.inl rfl) (pe_op op_cat (pv 1) (pe_call G_mentioned (hr.mono (by omega)) (by rfl) T.g_mentioned T.mentioned.kp T.b_mentioned .nil pass0 (pa_cons (pv 2) pa_nil))))))
  (pss_one (ps_ret (pe_callB (cr_sortTS rfl) (by rfl) T.n_sorted (by decide +kernel) (pa_cons (pe_callTy (cr_setTSL rfl) (by rfl) T.n_set (by decide +kernel) (pa_cons (pv 1) pa_nil)) pa_nil))))))), ?_⟩
      dsimp only [cxOf]
      rcases ment_cs hd ho hv with ⟨p, hd0, zs, rfl, hp, hh, hz, er⟩ | ⟨p, hd0, ps, rfl, hp, hh, hps, hl, er⟩
      · have hh : inV (.str hd0) [.str "has", .str "together"] = true := by rcases hh with rfl | rfl <;> decide +kernel
        rw [er] at k
        have e1 := at0 (x := .str hd0) (xs := zs.map V.str)
        have e2 := nwhole (x := .str hd0) (xs := zs.map V.str)
        have lz : zs.length + 1 < scanBound := by
          have : scanBound = 4096 := rfl
          omega
        walk_at "rd"
        intro p1 hp1
        have s1 : Same H (upd H p1 (.tup [.str "has", .str "together"])) := (Same.refl H).new hp1
        have ht1 := upd_same (H := H) (a := p1) (o := .tup [.str "has", .str "together"])
        generalize upd H p1 (.tup [.str "has", .str "together"]) = H1 at s1 ht1 ⊢
        refine ⟨p1, _, rfl, .inr (SqT.of ht1), rfl, rfl, ?_⟩
        have hp' := s1 _ _ hp
        rw [hh]
        walk_at "rd"
        intro p2 hp2
        rw [cut1]
        have s2 : Same H (upd H1 p2 (.tup (zs.map V.str))) := s1.new hp2
        have ht2 := upd_same (H := H1) (a := p2) (o := .tup (zs.map V.str))
        generalize upd H1 p2 (.tup (zs.map V.str)) = H2 at s2 ht2 ⊢
        refine ⟨p2, zs, rfl, SqT.of ht2, lz, fun q3 hq3 => ?_⟩
        have s3 := s2.new (o := TSO w q3 (setT zs)) hq3
        have ht3 := upd_same (H := H2) (a := q3) (o := TSO w q3 (setT zs))
        generalize upd H2 q3 (TSO w q3 (setT zs)) = H3 at s3 ht3 ⊢
        refine ⟨q3, setT zs, rfl, ht3, fun q4 hq4 => ?_⟩
        exact k _ q4 (s3.new hq4) upd_same (s3.free hq4)
      · rw [er] at k
        have e1 := at0 (x := .str hd0) (xs := ps.map (·.2))
        have e2 := nwhole (x := .str hd0) (xs := ps.map (·.2))
        walk_at "rd"
        intro p1 hp1
        have s1 : Same H (upd H p1 (.tup [.str "has", .str "together"])) := (Same.refl H).new hp1
        have ht1 := upd_same (H := H) (a := p1) (o := .tup [.str "has", .str "together"])
        generalize upd H p1 (.tup [.str "has", .str "together"]) = H1 at s1 ht1 ⊢
        refine ⟨p1, _, rfl, .inr (SqT.of ht1), rfl, rfl, ?_⟩
        rw [hh]
        have hp' := s1 _ _ hp
        walk_at "rd"
        intro q2 hq2
        have s2 : Same H (upd H1 q2 (.lst [])) := s1.new hq2
        have hl2 := upd_same (H := H1) (a := q2) (o := .lst [])
        generalize upd H1 q2 (.lst []) = H2 at s2 hl2 ⊢
        have hp2 := s2 _ _ hp
        walk_at "rd"
        intro p3 hp3
        rw [cut1]
        have s3 : Same H (upd H2 p3 (.tup (ps.map (·.2)))) := s2.new hp3
        have ht3 := upd_same (H := H2) (a := p3) (o := .tup (ps.map (·.2)))
        have hl3 := upd_old (o := .tup (ps.map (·.2))) hl2 hp3
        generalize upd H2 p3 (.tup (ps.map (·.2))) = H3 at s3 ht3 hl3 ⊢
        walk_at "rd"
        refine ⟨⟨_, SqT.of ht3⟩, ?_⟩
        refine for_tup (xs := ps.map (·.2)) (fun i σ H' => Same H3 H' ∧ ∃ r v2, H' r = some (.lst ((((ps.take i).map (·.1.recs)).flatten).map V.str)) ∧ σ = [some (.ref p), some (.ref r), v2]) ?_ ?_ ?_ ?_
        · exact ⟨Same.refl _, q2, _, hl3, rfl⟩
        · rintro i σ H' _ ⟨s4, _⟩
          exact SqT.of (s4 _ _ ht3)
        · rintro i x σ H' hx ⟨s4, r, v2, hr4, rfl⟩
          rw [List.getElem?_map] at hx
          obtain ⟨e, he, rfl⟩ : ∃ e, ps[i]? = some e ∧ x = e.2 := by
            cases q : ps[i]? with
            | none => rw [q] at hx; cases hx
            | some e => rw [q] at hx; cases hx; exact ⟨e, rfl, rfl⟩
          obtain ⟨d1, d2, d3⟩ := hps e (List.mem_of_getElem? he)
          have l1 := flat_len (ps := ps.take i) fun e he => (hps e (List.mem_of_mem_take he)).2.1
          have l2 : (ps.take i).length ≤ 2 := by rw [List.length_take]; omega
          have l3 := d2.len
          walk_at "rd"
          refine ⟨e.1, e.2, rfl, d1, d2, d3.im (s3.trans s4).im, fun H5 q5 s5 h5 _ => ?_⟩
          have hr5 := s5 _ _ hr4
          have l4 : (List.map V.str ((ps.take i).map (·.1.recs)).flatten).length + (List.map V.str e.1.recs).length ≤ sizeLine := by
            rw [List.length_map, List.length_map, sizeLine_eq]; omega
          walk_at "rd"
          intro q6 hq6
          refine ⟨(s4.trans s5).new hq6, q6, _, ?_, rfl⟩
          rw [upd_same, List.take_add_one, he, List.map_append, List.flatten_append, List.map_append]
          simp
        · rintro σ H' ⟨s4, r, v2, hr4, rfl⟩
          rw [List.length_map, List.take_length] at hr4
          have l1 := flat_len (ps := ps) fun e he => (hps e he).2.1
          have lz : ((ps.map (·.1.recs)).flatten).length + 1 < scanBound := by
            have : scanBound = 4096 := rfl
            omega
          have s5 := s3.trans s4
          walk_at "rd"
          intro q5 hq5
          have s6 := s5.new (o := TSO w q5 (setT ((ps.map (·.1.recs)).flatten))) hq5
          have ht6 := upd_same (H := H') (a := q5) (o := TSO w q5 (setT ((ps.map (·.1.recs)).flatten)))
          generalize upd H' q5 (TSO w q5 (setT ((ps.map (·.1.recs)).flatten))) = H6 at s6 ht6 ⊢
          refine ⟨q5, _, rfl, ht6, fun q7 hq7 => ?_⟩
          exact k _ q7 (s6.new hq7) upd_same (s6.free hq7)
/-! ### Rule -/
def spRuI (a : Ad) : Sp := fun vs H Q _ => ∃ (x dx : Addr) (v : V), vs = [.ref x, v] ∧ H x = some (.ins a.Rule dx []) ∧ Q .non (upd H x (.ins a.Rule dx [("form", v)]))
theorem ok_RuleU_initU (T : Txt K mg a d) : FnOk P w K mg base CX0 1 a.RuleU_initU d.RuleU_initU ["self", "form"] (spRuI a) := by
  refine T.RuleU_initU.ok sc_RuleU_initU (fun vs H Q E h => ?_) (fun cdv A outer s H vs Q E hr h => ?_)
  · obtain ⟨x, dx, v, rfl, _⟩ := h
    rfl
  · obtain ⟨x, dx, v, rfl, hx, k⟩ := h
    have c1 := T.k_Rule
    have n1 := T.na_Rule_form
    refine ⟨_, (pss_one (ps_fld (pv 0) (pv 1) rfl)), ?_⟩
    try dsimp only [cxOf]
    walk_at "rd"
    exact k
/-- a rule that is made -/
theorem ru_made {a : Ad} {H H1 : Hp} {f : Fm} {v : V} {x dx : Addr} (s : Same H H1) (hx : H1 x = none) (hdx : H1 dx = none) (hf : FmAt H1 f v) (ho : f.Ok) : Same H (upd (upd (upd H1 dx (.own x)) x (.ins a.Rule dx [])) x (.ins a.Rule dx [("form", v)])) ∧ RuAt a (upd (upd (upd H1 dx (.own x)) x (.ins a.Rule dx [])) x (.ins a.Rule dx [("form", v)])) f (.ref x) := by
  have s1 : Same H1 (upd (upd (upd H1 dx (.own x)) x (.ins a.Rule dx [])) x (.ins a.Rule dx [("form", v)])) := (((Same.refl H1).new hdx).frsh hx).frsh hx
  exact ⟨s.trans s1, x, dx, v, rfl, upd_same, hf.im s1.im, ho⟩
def outR (a : Ad) (f : Fm) (H : Hp) (Q : VK) : Prop := ∀ H' r, Same H H' → RuAt a H' f r → Q r H'
def spRHas (a : Ad) : Sp := fun vs H Q E => ∃ v, vs = [v] ∧ Thing H v ∧ match v with
  | .str z => if wordS z = true then outR a (.has z) H Q else errQ a.BadWord ef_BadWord [v] H E
  | v => errQ a.BadWord ef_BadWord [v] H E
theorem ok_Rule_has (T : Txt K mg a d) : FnOk P w K mg base (L2.CX P w) 3 a.Rule_has d.Rule_has ["record"] (spRHas a) := by
  have G_is_word : FnOk P w K mg base CX0 1 a.is_word d.is_word ["thing"] spIsWord := ok_is_word T
  have G_RuleU_initU : FnOk P w K mg base CX0 1 a.RuleU_initU d.RuleU_initU ["self", "form"] (spRuI a) := ok_RuleU_initU T
  refine T.Rule_has.okX sc_Rule_has (fun vs H Q E h => ?_) (fun cdv A outer s H vs Q E hr h => ?_)
  · obtain ⟨v, rfl, _⟩ := h
    rfl
  · obtain ⟨v, rfl, tv, k⟩ := h
    refine ⟨_, (pss_cons (ps_if (pt_not (pt_val (pe_call G_is_word (hr.mono (by decide)) (by rfl) T.g_is_word T.is_word.kp T.b_is_word .nil pass0 (pa_cons (pv 0) pa_nil)))) (pss_one (ps_raise rfl (takes_of rfl rfl rfl rfl) (pmk_err T.e_BadWord T.g_BadWord T.n_super hr (pa_cons (pv 0) pa_nil)))) pss_nil)
  (pss_one (ps_ret (pe_make T.mk_Rule G_RuleU_initU (hr.mono (by decide)) (by rfl) T.g_Rule T.b_RuleU_initU .nil pass0 (pa_cons (pe_tup (pa_cons pe_str (pa_cons (pv 0) pa_nil))) pa_nil))))), ?_⟩
    try dsimp only [cxOf]
    walk_at "rd"
    cases bz : wordB v with
    | false =>
      refine iteT ?_
      walk_at "rd"
      cases v with
      | str z =>
        dsimp only at k
        rw [if_neg (by rw [show wordS z = false from bz]; simp)] at k
        exact k
      | _ => exact k
    | true =>
      refine iteF ?_
      obtain ⟨z, rfl⟩ : ∃ z, v = .str z := by
        cases v <;> first | exact ⟨_, rfl⟩ | cases bz
      dsimp only at k
      rw [if_pos (show wordS z = true from bz)] at k
      walk_at "rd"
      intro p hp
      have s1 : Same H (upd H p (.tup [.str "has", .str z])) := (Same.refl H).new hp
      have ht := upd_same (H := H) (a := p) (o := .tup [.str "has", .str z])
      generalize upd H p (.tup [.str "has", .str z]) = H1 at s1 ht ⊢
      walk_at "rd"
      intro x dx hx hdx nxd
      refine ⟨x, dx, .ref p, rfl, upd_same, rfl, ?_⟩
      obtain ⟨r1, r2⟩ := ru_made (a := a) (f := .has z) s1 hx hdx ⟨p, rfl, ht⟩ (wordS_of bz)
      exact k _ _ r1 r2
/-- Rule.together(..) -/
def badV (xs : List V) : Option V := xs.find? fun v => !wordB v
theorem badV_at {xs : List V} {i : Nat} {v : V} (h : xs[i]? = some v) (a : ∀ x ∈ xs.take i, wordB x = true) (b : wordB v = false) : badV xs = some v := by
  unfold badV
  have hi := (List.getElem?_eq_some_iff.mp h).1
  have e : xs = xs.take i ++ v :: xs.drop (i + 1) := by
    have := List.take_append_drop i xs
    rw [List.drop_eq_getElem_cons hi, (List.getElem?_eq_some_iff.mp h).2] at this
    exact this.symm
  rw [e, List.find?_append, List.find?_eq_none.mpr (fun x hx => by rw [a x hx]; simp), Option.none_or, List.find?_cons, b]
  rfl
theorem badV_no {xs : List V} (a : ∀ x ∈ xs, wordB x = true) : badV xs = none := List.find?_eq_none.mpr fun x hx => by rw [a x hx]; simp
theorem words_of {xs : List V} (a : ∀ x ∈ xs, wordB x = true) : ∃ zs : List Str, xs = zs.map V.str ∧ ∀ z ∈ zs, IsWord z := by
  induction xs with
  | nil => exact ⟨[], rfl, fun _ h => nomatch h⟩
  | cons x r ih =>
    obtain ⟨zs, e, h⟩ := ih fun y hy => a y (List.mem_cons_of_mem _ hy)
    have hx := a x List.mem_cons_self
    obtain ⟨z, rfl⟩ : ∃ z, x = .str z := by
      cases x <;> first | exact ⟨_, rfl⟩ | cases hx
    refine ⟨z :: zs, by rw [e]; rfl, fun y hy => ?_⟩
    rcases List.mem_cons.mp hy with rfl | hy
    · exact wordS_of hx
    · exact h y hy
def outT (a : Ad) (xs : List V) (H : Hp) (Q : VK) (E : XK) : Prop := match badV xs with
  | some v => errQ a.BadWord ef_BadWord [v] H E
  | none => ∀ zs : List Str, xs = zs.map V.str → (∀ z ∈ zs, IsWord z) → if 6 < (setT zs).length then (∀ H', Same H H' → errQ a.TooMany ef_TooMany [.str "records"] H' E) else outR a (.tog (sortT (setT zs))) H Q
def spTogB (a : Ad) : Sp := fun vs H Q E => ∃ p xs, vs = [.ref p] ∧ H p = some (.tup xs) ∧ (∀ x ∈ xs, Thing H x) ∧ xs.length ≤ 1000 ∧ outT a xs H Q E
def spTog (a : Ad) : Sp := fun vs H Q E => (∀ x ∈ vs, Thing H x) ∧ vs.length ≤ 1000 ∧ ∀ p, H p = none → outT a vs (upd H p (.tup vs)) Q E
theorem ok_Rule_together (T : Txt K mg a d) : FnR P w K mg base (L2.CX P w) 3 a.Rule_together (spTog a) := by
  have G_is_word : FnOk P w K mg base CX0 1 a.is_word d.is_word ["thing"] spIsWord := ok_is_word T
  have G_RuleU_initU : FnOk P w K mg base CX0 1 a.RuleU_initU d.RuleU_initU ["self", "form"] (spRuI a) := ok_RuleU_initU T
  obtain ⟨oc, od, kV, doc, pm, an, cdv, ct, osl, e, lk, hcd⟩ := T.Rule_together.ex
  rw [e] at lk
  obtain ⟨um, v_most, rfl_most⟩ := T.v_MOST_RECORDS
  refine (StX.fn_star (sp := spTogB a) (ps := []) (pv := "records") lk hcd sc_Rule_together StX.cxUp (fun us rest hl => ?_) (fun A outer s H vs Q E hr h => ?_)).imp fun vs H Q E h => ?_
  · match us, hl with
    | [], _ => cases rest <;> rfl
  · obtain ⟨p, xs, rfl, hp, tx, hl, k⟩ := h
    refine ⟨_, (pss_cons (ps_for (passes_of rfl) rfl (pi_tup (pv 0)) (pg_name (i := 1) sc_Rule_together.nd rfl (Or.inl rfl))
  (pss_one (ps_if (pt_not (pt_val (pe_call G_is_word (hr.mono (by decide)) (by rfl) T.g_is_word T.is_word.kp T.b_is_word .nil pass0 (pa_cons (pv 1) pa_nil)))) (pss_one (ps_raise rfl (takes_of rfl rfl rfl rfl) (pmk_err T.e_BadWord T.g_BadWord T.n_super hr (pa_cons (pv 1) pa_nil)))) pss_nil)))
  (pss_cons (ps_set (i := 2) sc_Rule_together.nd rfl (Or.inl rfl) (pe_callB (cr_sortTS rfl) (by rfl) T.n_sorted (by decide +kernel) (pa_cons (pe_callTy (cr_setTST rfl) (by rfl) T.n_set (by decide +kernel) (pa_cons (pv 0) pa_nil)) pa_nil)))
  (pss_cons (ps_if (pt_cmpR op_gt (pe_callB call_len_seq (by rfl) T.n_len PySem.boot_len (pa_cons (pv 2) pa_nil)) (pe_glob (v := .int 6) (by rfl) v_most rfl_most) (nomark _)) (pss_one (ps_raise rfl (takes_of rfl rfl rfl rfl) (pmk_err T.e_TooMany T.g_TooMany T.n_super hr (pa_cons pe_str pa_nil)))) pss_nil)
  (pss_one (ps_ret (pe_make T.mk_Rule G_RuleU_initU (hr.mono (by decide)) (by rfl) T.g_Rule T.b_RuleU_initU .nil pass0 (pa_cons (pe_tup (pa_cons pe_str (StX.pa_star (pv 2) pa_nil))) pa_nil))))))), ?_⟩
    try dsimp only [cxOf]
    unfold outT at k
    walk_at "rd"
    refine ⟨⟨_, SqT.of hp⟩, ?_⟩
    refine for_tup (xs := xs) (fun i σ H' => H' = H ∧ (∀ x ∈ xs.take i, wordB x = true) ∧ ∃ v1 v2, σ = [some (.ref p), v1, v2]) ?_ ?_ ?_ ?_
    · exact ⟨rfl, (fun x hx => nomatch hx), _, _, rfl⟩
    · rintro i σ H' _ ⟨rfl, _⟩
      exact SqT.of hp
    · rintro i v σ H' hv ⟨rfl, ha, v1, v2, rfl⟩
      have tv := tx v (List.mem_of_getElem? hv)
      walk_at "rd"
      cases bz : wordB v with
      | false =>
        rw [badV_at hv ha bz] at k
        refine iteT ?_
        walk_at "rd"
        exact k
      | true =>
        refine iteF ?_
        refine ⟨rfl, fun x hx => ?_, _, _, rfl⟩
        rw [List.take_add_one, hv] at hx
        rcases List.mem_append.mp hx with hx | hx
        · exact ha x hx
        · cases List.mem_singleton.mp hx
          exact bz
    · rintro σ H' ⟨rfl, ha, v1, v2, rfl⟩
      rw [List.take_length] at ha
      obtain ⟨zs, rfl, wz⟩ := words_of ha
      rw [badV_no ha] at k
      have k := k zs rfl wz
      rw [List.length_map] at hl
      have lz : zs.length + 1 < scanBound := by
        have : scanBound = 4096 := rfl
        omega
      walk_at "rd"
      intro q3 hq3
      have s3 := (Same.refl H').new (o := TSO w q3 (setT zs)) hq3
      have ht3 := upd_same (H := H') (a := q3) (o := TSO w q3 (setT zs))
      generalize upd H' q3 (TSO w q3 (setT zs)) = H3 at s3 ht3 ⊢
      refine ⟨q3, setT zs, rfl, ht3, fun q4 hq4 => ?_⟩
      have s4 := s3.new (o := .lst ((sortT (setT zs)).map V.str)) hq4
      have ht4 := upd_same (H := H3) (a := q4) (o := .lst ((sortT (setT zs)).map V.str))
      generalize upd H3 q4 (.lst ((sortT (setT zs)).map V.str)) = H4 at s4 ht4 ⊢
      walk_at "rd"
      rw [List.length_map, sortT_len]
      by_cases b6 : 6 < (setT zs).length
      · rw [if_pos b6] at k
        rw [decide_eq_true (by omega : (6 : Int) < ((setT zs).length : Int))]
        refine iteT ?_
        walk_at "rd"
        exact k H4 s4
      · rw [if_neg b6] at k
        rw [decide_eq_false (by omega : ¬ (6 : Int) < ((setT zs).length : Int))]
        refine iteF ?_
        have l4 : (V.str "together" :: ((sortT (setT zs)).map V.str ++ [])).length ≤ sizeLine := by
          rw [List.append_nil, List.length_cons, List.length_map, sortT_len, sizeLine_eq]; omega
        walk_at "rd"
        intro p5 hp5
        rw [List.append_nil]
        have s5 := s4.new (o := .tup (.str "together" :: (sortT (setT zs)).map V.str)) hp5
        have ht5 := upd_same (H := H4) (a := p5) (o := .tup (.str "together" :: (sortT (setT zs)).map V.str))
        generalize upd H4 p5 (.tup (.str "together" :: (sortT (setT zs)).map V.str)) = H5 at s5 ht5 ⊢
        walk_at "rd"
        intro x dx hx hdx nxd
        refine ⟨x, dx, .ref p5, rfl, upd_same, rfl, ?_⟩
        obtain ⟨r1, r2⟩ := ru_made (a := a) (f := .tog (sortT (setT zs))) s5 hx hdx ⟨p5, rfl, ht5⟩ ⟨fun z hz => wz z (by rw [sortT_mem, setT_mem] at hz; exact hz), by rw [sortT_len]; omega⟩
        exact k _ _ r1 r2
  · obtain ⟨h1, h2, h3⟩ := h
    refine ⟨[], vs, rfl, rfl, by rw [sizeLine_eq]; omega, fun p hp => ⟨p, vs, rfl, upd_same, fun x hx => (h1 x hx).same ((Same.refl H).new hp), h2, h3 p hp⟩⟩
/-! ### records(), the call of a rule -/
def spRecs0 (a : Ad) (n : Nat) : Sp := fun vs H Q _ => ∃ f v, vs = [v] ∧ RuAt a H f v ∧ f.dep < n ∧ ∀ H' q, Same H H' → H' q = some (.lst (f.recs.map V.str)) → H q = none → Q (.ref q) H'
theorem ok_Rule_records (T : Txt K mg a d) (n : Nat) : FnOk P w K mg base CX0 (n + 1) a.Rule_records d.Rule_records ["self"] (spRecs0 a n) := by
  have G_mentioned := ok_mentioned (w := w) (base := base) T n
  refine T.Rule_records.ok sc_Rule_records (fun vs H Q E h => ?_) (fun cdv A outer s H vs Q E hr h => ?_)
  · obtain ⟨f, v, rfl, _⟩ := h
    rfl
  · obtain ⟨f, v, rfl, ⟨p, dx, x, rfl, hp, hf, ho⟩, hd, k⟩ := h
    have c1 := T.k_Rule
    have n1 := T.na_Rule_form
    refine ⟨_, (pss_one (ps_ret (pe_call G_mentioned (hr.mono (by omega)) (by rfl) T.g_mentioned T.mentioned.kp T.b_mentioned .nil pass0 (pa_cons (pe_fld (pv 0) rfl) pa_nil)))), ?_⟩
    try dsimp only [cxOf]
    walk_at "rd"
    exact ⟨f, x, rfl, hd, ho, hf, k⟩
/-! ### further rules within a comprehension -/
theorem call_len_seqK {X : Cx} {K : PySem.W.Frag} (hK : X.K = K) : CallR X (.builtin "len") (fun xs H Q => ∃ p ys, xs = [V.ref p] ∧ (SqL K H p ys ∨ SqT K H p ys) ∧ Q (V.int (ys.length : Int)) H) := hK ▸ call_len_seq
theorem pi_listK {X : Cx} {K : PySem.W.Frag} {tg l : Expr} {tl : TE} (hK : X.K = K) (hl : PE X l tl) : PI X tg l (iList K tl) := hK ▸ pi_list hl
theorem pi_tupK {X : Cx} {K : PySem.W.Frag} {tg l : Expr} {tl : TE} (hK : X.K = K) (hl : PE X l tl) : PI X tg l (iTup K tl) := hK ▸ pi_tup hl
/-! ### == of lists of texts; a rule together -/
theorem eqv_strs : ∀ xs ys : List Str, PyData.eqvAll (xs.map PyData.str) (ys.map PyData.str) = decide (xs = ys)
  | [], [] => by simp [PyData.eqvAll]
  | [], y :: ys => by simp [PyData.eqvAll]
  | x :: xs, [] => by simp [PyData.eqvAll]
  | x :: xs, y :: ys => by
    show (PyData.eqv (.str x) (.str y) && PyData.eqvAll (xs.map PyData.str) (ys.map PyData.str)) = _
    rw [eqv_strs xs ys]
    show ((x == y) && decide (xs = ys)) = _
    by_cases h : x = y
    · subst h
      simp
    · simp [h]
theorem eqv_lists (xs ys : List Str) : PyData.eqv (.list (xs.map PyData.str)) (.list (ys.map PyData.str)) = decide (xs = ys) := eqv_strs xs ys
theorem filt_all {l : List Str} {p : Str → Bool} : (l.filter p).length = l.length ↔ ∀ z ∈ l, p z = true := List.length_filter_eq_length_iff
theorem filt_no {l : List Str} {p : Str → Bool} : (l.filter p).length = 0 ↔ ∀ z ∈ l, ¬ p z = true := by
  rw [List.length_eq_zero_iff, List.filter_eq_nil_iff]
theorem inV_two {n m : Int} : inV (.int n) [.int 0, .int m] = (decide (n = 0) || decide (n = m)) := by
  show ((0 == n) || ((m == n) || false)) = _
  by_cases h1 : n = 0
  · subst h1
    simp
  · have h1' : ¬ (0 : Int) = n := fun q => h1 q.symm
    by_cases h2 : n = m
    · subst h2
      simp
    · have h2' : ¬ m = n := fun q => h2 q.symm
      simp [h1, h2, h1', h2']
theorem tog_due {ls ks : List Str} : Fm.sat ks (.tog (sortT (setT ls))) = (decide (ls.filter (fun z => decide (z ∈ ks)) = []) || decide (ls.filter (fun z => decide (z ∈ ks)) = ls)) := by
  show inV _ _ = _
  rw [inV_two]
  have m : ∀ z, z ∈ sortT (setT ls) ↔ z ∈ ls := fun z => by rw [sortT_mem, setT_mem]
  congr 1
  · apply decide_eq_decide.mpr
    rw [List.filter_eq_nil_iff]
    constructor
    · intro h z hz
      exact filt_no.mp (by omega : ((sortT (setT ls)).filter (fun z => decide (z ∈ ks))).length = 0) z ((m z).mpr hz)
    · intro h
      have := (filt_no (l := sortT (setT ls)) (p := fun z => decide (z ∈ ks))).mpr fun z hz => h z ((m z).mp hz)
      omega
  · apply decide_eq_decide.mpr
    rw [List.filter_eq_self]
    constructor
    · intro h z hz
      exact filt_all.mp (by omega : ((sortT (setT ls)).filter (fun z => decide (z ∈ ks))).length = (sortT (setT ls)).length) z ((m z).mpr hz)
    · intro h
      have := (filt_all (l := sortT (setT ls)) (p := fun z => decide (z ∈ ks))).mpr fun z hz => h z ((m z).mp hz)
      omega
theorem tog_recs {ls : List Str} : (Fm.tog (sortT (setT ls))).recs = sortT (setT ls) := sortT_set fun k => by rw [sortT_mem, setT_mem]
theorem has_recs {z : Str} : (Fm.has z).recs = [z] := by
  show sortT (setT [z]) = [z]
  have e : setT [z] = [z] := rfl
  rw [e]
  exact List.Perm.eq_singleton (sortT_perm [z])
theorem alw_recs : Fm.alw.recs = [] := List.Perm.eq_nil (sortT_perm [])
/-! ### rules made of rules -/
def spComb (a : Ad) (n : Nat) : Sp := fun vs H Q E => ∃ w' f g v1 v2, vs = [.str w', v1, v2] ∧ w' ∈ opsS ∧ RuAt a H f v1 ∧ RuAt a H g v2 ∧ f.dep < n ∧ g.dep < n ∧
  if 6 < (setT (f.recs ++ g.recs)).length then (∀ H', Same H H' → errQ a.TooMany ef_TooMany [.str "records"] H' E) else outR a (.bin w' f g) H Q
theorem ok_combined (T : Txt K mg a d) (n : Nat) : FnOk P w K mg base (L2.CX P w) (n + 2) a.combined d.combined ["word", "one", "other"] (spComb a n) := by
  have G_Rule_records := ok_Rule_records (w := w) (base := base) T n
  have G_RuleU_initU : FnOk P w K mg base CX0 1 a.RuleU_initU d.RuleU_initU ["self", "form"] (spRuI a) := ok_RuleU_initU T
  obtain ⟨um, v_most, rfl_most⟩ := T.v_MOST_RECORDS
  refine T.combined.okX sc_combined (fun vs H Q E h => ?_) (fun cdv A outer s H vs Q E hr h => ?_)
  · obtain ⟨w', f, g, v1, v2, rfl, _⟩ := h
    rfl
  · obtain ⟨w', f, g, v1, v2, rfl, hw, r1, r2, d1, d2, k⟩ := h
    refine ⟨_, (pss_cons (ps_if (pt_cmpR op_gt (pe_callB cr_lenTS (by rfl) T.n_len PySem.boot_len (pa_cons (pe_callTy (cr_setTSL rfl) (by rfl) T.n_set (by decide +kernel) (pa_cons (pe_op op_cat (pe_meth0 (pv 1) T.k_Rule T.m_Rule_records G_Rule_records (hr.mono (by omega)) T.b_Rule_records .nil pass0) (pe_meth0 (pv 2) T.k_Rule T.m_Rule_records G_Rule_records (hr.mono (by omega)) T.b_Rule_records .nil pass0)) pa_nil)) pa_nil)) (pe_glob (v := .int 6) (by rfl) v_most rfl_most) (nomark _)) (pss_one (ps_raise rfl (takes_of rfl rfl rfl rfl) (pmk_err T.e_TooMany T.g_TooMany T.n_super hr (pa_cons pe_str pa_nil)))) pss_nil)
  (pss_one (ps_ret (pe_make T.mk_Rule G_RuleU_initU (hr.mono (by omega)) (by rfl) T.g_Rule T.b_RuleU_initU .nil pass0 (pa_cons (pe_tup (pa_cons (pv 0) (pa_cons (pe_fld (pv 1) rfl) (pa_cons (pe_fld (pv 2) rfl) pa_nil)))) pa_nil))))), ?_⟩
    try dsimp only [cxOf]
    obtain ⟨p1, x1, y1, e1, h1, f1, o1⟩ := id r1
    obtain ⟨p2, x2, y2, e2, h2, f2, o2⟩ := id r2
    subst e1 e2
    have c1 := T.k_Rule
    have n1 := T.na_Rule_form
    have l1 := o1.len
    have l2 := o2.len
    have l3 : (f.recs.map V.str).length + (g.recs.map V.str).length ≤ sizeLine := by rw [List.length_map, List.length_map, sizeLine_eq]; omega
    have l4 : (f.recs ++ g.recs).length + 1 < scanBound := by
      have : scanBound = 4096 := rfl
      rw [List.length_append]; omega
    walk_at "rd"
    refine ⟨f, _, rfl, r1, d1, fun H3 q3 s3 h3 _ => ?_⟩
    have h23 := s3 _ _ h2
    walk_at "rd"
    refine ⟨g, _, rfl, r2.im s3.im, d2, fun H4 q4 s4 h4 _ => ?_⟩
    have h34 := s4 _ _ h3
    have s4 := s3.trans s4
    walk_at "rd"
    intro q5 hq5
    rw [← List.map_append]
    have s5 := s4.new (o := .lst ((f.recs ++ g.recs).map V.str)) hq5
    have h5 := upd_same (H := H4) (a := q5) (o := .lst ((f.recs ++ g.recs).map V.str))
    generalize upd H4 q5 (.lst ((f.recs ++ g.recs).map V.str)) = H5 at s5 h5 ⊢
    walk_at "rd"
    intro q6 hq6
    have s6 := s5.new (o := TSO w q6 (setT (f.recs ++ g.recs))) hq6
    have h6 := upd_same (H := H5) (a := q6) (o := TSO w q6 (setT (f.recs ++ g.recs)))
    generalize upd H5 q6 (TSO w q6 (setT (f.recs ++ g.recs))) = H6 at s6 h6 ⊢
    have h26 := s6 _ _ h2
    have h16 := s6 _ _ h1
    refine ⟨q6, _, rfl, h6, ?_⟩
    walk_at "rd"
    by_cases b6 : 6 < (setT (f.recs ++ g.recs)).length
    · rw [if_pos b6] at k
      rw [decide_eq_true (by omega : (6 : Int) < ((setT (f.recs ++ g.recs)).length : Int))]
      refine iteT ?_
      walk_at "rd"
      exact k H6 s6
    · rw [if_neg b6] at k
      rw [decide_eq_false (by omega : ¬ (6 : Int) < ((setT (f.recs ++ g.recs)).length : Int))]
      refine iteF ?_
      walk_at "rd"
      intro p7 hp7
      have s7 := s6.new (o := .tup [.str w', y1, y2]) hp7
      have ht7 := upd_same (H := H6) (a := p7) (o := .tup [.str w', y1, y2])
      generalize upd H6 p7 (.tup [.str w', y1, y2]) = H7 at s7 ht7 ⊢
      walk_at "rd"
      intro x dx hx hdx nxd
      refine ⟨x, dx, .ref p7, rfl, upd_same, rfl, ?_⟩
      obtain ⟨r3, r4⟩ := ru_made (a := a) (f := .bin w' f g) s7 hx hdx ⟨p7, y1, y2, rfl, ht7, f1.im s7.im, f2.im s7.im⟩ ⟨hw, o1, o2, by
        show (sortT (setT (f.recs ++ g.recs))).length ≤ 6
        rw [sortT_len]; omega⟩
      exact k _ _ r3 r4
def spBin (a : Ad) (n : Nat) (w' : Str) : Sp := fun vs H Q E => ∃ f g v1 v2, vs = [v1, v2] ∧ RuAt a H f v1 ∧ RuAt a H g v2 ∧ f.dep < n ∧ g.dep < n ∧
  if 6 < (setT (f.recs ++ g.recs)).length then (∀ H', Same H H' → errQ a.TooMany ef_TooMany [.str "records"] H' E) else outR a (.bin w' f g) H Q
theorem ok_RuleU_andU (T : Txt K mg a d) (n : Nat) : FnOk P w K mg base (L2.CX P w) (n + 3) a.RuleU_andU d.RuleU_andU ["self", "other"] (spBin a n "and") := by
  have G_combined : FnOk P w K mg base (L2.CX P w) (n + 2) a.combined d.combined ["word", "one", "other"] (spComb a n) := ok_combined T n
  refine T.RuleU_andU.okX sc_RuleU_andU (fun vs H Q E h => ?_) (fun cdv A outer s H vs Q E hr h => ?_)
  · obtain ⟨f, g, v1, v2, rfl, _⟩ := h
    rfl
  · obtain ⟨f, g, v1, v2, rfl, r1, r2, d1, d2, k⟩ := h
    refine ⟨_, (pss_one (ps_ret (pe_call G_combined (hr.mono (by omega)) (by rfl) T.g_combined T.combined.kp T.b_combined .nil (passes_call (takes_of rfl rfl rfl rfl) (fun _ _ _ _ h => h)) (pa_cons pe_str (pa_cons (pv 0) (pa_cons (pv 1) pa_nil)))))), ?_⟩
    try dsimp only [cxOf]
    walk_at "rd"
    exact ⟨f, g, v1, v2, rfl, by simp, r1, r2, d1, d2, k⟩
theorem ok_RuleU_orU (T : Txt K mg a d) (n : Nat) : FnOk P w K mg base (L2.CX P w) (n + 3) a.RuleU_orU d.RuleU_orU ["self", "other"] (spBin a n "or") := by
  have G_combined : FnOk P w K mg base (L2.CX P w) (n + 2) a.combined d.combined ["word", "one", "other"] (spComb a n) := ok_combined T n
  refine T.RuleU_orU.okX sc_RuleU_orU (fun vs H Q E h => ?_) (fun cdv A outer s H vs Q E hr h => ?_)
  · obtain ⟨f, g, v1, v2, rfl, _⟩ := h
    rfl
  · obtain ⟨f, g, v1, v2, rfl, r1, r2, d1, d2, k⟩ := h
    refine ⟨_, (pss_one (ps_ret (pe_call G_combined (hr.mono (by omega)) (by rfl) T.g_combined T.combined.kp T.b_combined .nil (passes_call (takes_of rfl rfl rfl rfl) (fun _ _ _ _ h => h)) (pa_cons pe_str (pa_cons (pv 0) (pa_cons (pv 1) pa_nil)))))), ?_⟩
    try dsimp only [cxOf]
    walk_at "rd"
    exact ⟨f, g, v1, v2, rfl, by simp, r1, r2, d1, d2, k⟩
theorem ok_RuleU_rshiftU (T : Txt K mg a d) (n : Nat) : FnOk P w K mg base (L2.CX P w) (n + 3) a.RuleU_rshiftU d.RuleU_rshiftU ["self", "other"] (spBin a n "needs") := by
  have G_combined : FnOk P w K mg base (L2.CX P w) (n + 2) a.combined d.combined ["word", "one", "other"] (spComb a n) := ok_combined T n
  refine T.RuleU_rshiftU.okX sc_RuleU_rshiftU (fun vs H Q E h => ?_) (fun cdv A outer s H vs Q E hr h => ?_)
  · obtain ⟨f, g, v1, v2, rfl, _⟩ := h
    rfl
  · obtain ⟨f, g, v1, v2, rfl, r1, r2, d1, d2, k⟩ := h
    refine ⟨_, (pss_one (ps_ret (pe_call G_combined (hr.mono (by omega)) (by rfl) T.g_combined T.combined.kp T.b_combined .nil (passes_call (takes_of rfl rfl rfl rfl) (fun _ _ _ _ h => h)) (pa_cons pe_str (pa_cons (pv 0) (pa_cons (pv 1) pa_nil)))))), ?_⟩
    try dsimp only [cxOf]
    walk_at "rd"
    exact ⟨f, g, v1, v2, rfl, by simp, r1, r2, d1, d2, k⟩
def spInv (a : Ad) : Sp := fun vs H Q _ => ∃ f v, vs = [v] ∧ RuAt a H f v ∧ outR a (.nt f) H Q
theorem ok_RuleU_invertU (T : Txt K mg a d) : FnOk P w K mg base CX0 3 a.RuleU_invertU d.RuleU_invertU ["self"] (spInv a) := by
  have G_RuleU_initU : FnOk P w K mg base CX0 1 a.RuleU_initU d.RuleU_initU ["self", "form"] (spRuI a) := ok_RuleU_initU T
  refine T.RuleU_invertU.ok sc_RuleU_invertU (fun vs H Q E h => ?_) (fun cdv A outer s H vs Q E hr h => ?_)
  · obtain ⟨f, v, rfl, _⟩ := h
    rfl
  · obtain ⟨f, v, rfl, r1, k⟩ := h
    refine ⟨_, (pss_one (ps_ret (pe_make T.mk_Rule G_RuleU_initU (hr.mono (by decide)) (by rfl) T.g_Rule T.b_RuleU_initU .nil pass0 (pa_cons (pe_tup (pa_cons pe_str (pa_cons (pe_fld (pv 0) rfl) pa_nil))) pa_nil)))), ?_⟩
    try dsimp only [cxOf]
    obtain ⟨p1, x1, y1, e1, h1, f1, o1⟩ := id r1
    subst e1
    have c1 := T.k_Rule
    have n1 := T.na_Rule_form
    walk_at "rd"
    intro p7 hp7
    have s7 := (Same.refl H).new (o := .tup [.str "not", y1]) hp7
    have ht7 := upd_same (H := H) (a := p7) (o := .tup [.str "not", y1])
    generalize upd H p7 (.tup [.str "not", y1]) = H7 at s7 ht7 ⊢
    walk_at "rd"
    intro x dx hx hdx nxd
    refine ⟨x, dx, .ref p7, rfl, upd_same, rfl, ?_⟩
    obtain ⟨r3, r4⟩ := ru_made (a := a) (f := .nt f) s7 hx hdx ⟨p7, y1, rfl, ht7, f1.im s7.im⟩ o1
    exact k _ _ r3 r4
/-! ### the text of a rule -/
theorem app_len (x y : Str) : (x ++ y).length = x.length + y.length := by
  show (x.cps ++ y.cps).size = x.cps.size + y.cps.size
  simp
theorem app_nil (x : Str) : Str.empty ++ x = x := by
  show (⟨#[] ++ x.cps⟩ : Str) = x
  simp
def Fm.txt : Fm → Str
  | .has z => z
  | .tog zs => "together(" ++ Txt.join " " zs ++ ")"
  | .alw => "always()"
  | .nt f => "not " ++ f.txt
  | .bin w f g => "(" ++ f.txt ++ " " ++ w ++ " " ++ g.txt ++ ")"
theorem join_len (zs : List Str) : (Txt.join " " zs).length ≤ (zs.map (·.length)).sum + zs.length := by
  have e : Txt.join " " zs = Str.join " " zs := StrLaws.glued_eq_join " " zs
  rw [e]
  have h := StrLaws.join_length_le " " zs
  have : (Str.ofString " ").length = 1 := by decide +kernel
  rw [this] at h
  omega
theorem word_len {z : Str} (h : IsWord z) : z.length ≤ 8 := by rw [← len_toList]; exact h.hi
theorem sum_len : ∀ {zs : List Str}, (∀ z ∈ zs, IsWord z) → (zs.map (·.length)).sum ≤ 8 * zs.length
  | [], _ => by simp
  | z :: zs, h => by
    have h1 := word_len (h z List.mem_cons_self)
    have h2 := sum_len (zs := zs) fun y hy => h y (List.mem_cons_of_mem _ hy)
    simp only [List.map_cons, List.sum_cons, List.length_cons]
    omega
theorem l_tog : ("together(" : Str).length = 9 := by decide +kernel
theorem l_cl : (")" : Str).length = 1 := by decide +kernel
theorem l_op : ("(" : Str).length = 1 := by decide +kernel
theorem l_sp : (" " : Str).length = 1 := by decide +kernel
theorem l_not : ("not " : Str).length = 4 := by decide +kernel
theorem l_alw : ("always()" : Str).length = 8 := by decide +kernel
theorem l_ops {w' : Str} (h : w' ∈ opsS) : w'.length ≤ 5 := by
  have : opsS.all (fun m => decide (m.length ≤ 5)) = true := by decide +kernel
  exact of_decide_eq_true (List.all_eq_true.mp this w' h)
theorem txt_len : ∀ {f : Fm}, f.Ok → f.txt.length + 10 ≤ 100 * 2 ^ f.dep
  | .has z, h => by
    have := word_len h
    show z.length + 10 ≤ 100 * 2 ^ 0
    omega
  | .tog zs, h => by
    have h1 := sum_len h.1
    have h2 := h.2
    have h3 := join_len zs
    show (("together(" : Str) ++ Txt.join " " zs ++ ")").length + 10 ≤ 100 * 2 ^ 0
    rw [app_len, app_len, l_tog, l_cl]
    omega
  | .alw, _ => by
    show ("always()" : Str).length + 10 ≤ 100 * 2 ^ 0
    rw [l_alw]; omega
  | .nt f, h => by
    have h1 := txt_len (f := f) h
    show (("not " : Str) ++ f.txt).length + 10 ≤ 100 * 2 ^ (f.dep + 1)
    rw [app_len, l_not, Nat.pow_succ]; omega
  | .bin w' f g, h => by
    have h1 := txt_len (f := f) h.2.1
    have h2 := txt_len (f := g) h.2.2.1
    have h3 := l_ops h.1
    have e1 : 2 ^ f.dep ≤ 2 ^ (max f.dep g.dep) := Nat.pow_le_pow_right (by omega) (by omega)
    have e2 : 2 ^ g.dep ≤ 2 ^ (max f.dep g.dep) := Nat.pow_le_pow_right (by omega) (by omega)
    show (("(" : Str) ++ f.txt ++ " " ++ w' ++ " " ++ g.txt ++ ")").length + 10 ≤ 100 * 2 ^ (max f.dep g.dep + 1)
    rw [app_len, app_len, app_len, app_len, app_len, app_len, l_op, l_sp, l_cl, Nat.pow_succ]; omega
theorem txt_len10 {f : Fm} (h : f.Ok) (hd : f.dep < 10) : f.txt.length ≤ 51200 := by
  have h1 := txt_len h
  have : 2 ^ f.dep ≤ 2 ^ 9 := Nat.pow_le_pow_right (by omega) (by omega)
  omega
def spSpell (n : Nat) : Sp := fun vs H Q _ => ∃ f v, vs = [v] ∧ Fm.dep f < n ∧ n ≤ 10 ∧ f.Ok ∧ FmAt H f v ∧ ∀ H', Same H H' → Q (.str f.txt) H'
theorem ok_spelled (T : Txt K mg a d) : ∀ n, FnOk P w K mg base CX0 n a.spelled d.spelled ["form"] (spSpell n)
  | 0 => fn_none fun vs H Q E ⟨f, v, _, h, _⟩ => by omega
  | n + 1 => by
    have G_spelled := ok_spelled T n
    refine T.spelled.ok sc_spelled (fun vs H Q E h => ?_) (fun cdv A outer s H vs Q E hr h => ?_)
    · obtain ⟨f, v, rfl, _⟩ := h
      rfl
    · obtain ⟨f, v, rfl, hd, hn, ho, hv, k⟩ := h
      refine ⟨_, (pss_cons (ps_set (i := 1) sc_spelled.nd rfl (Or.inl rfl) (pe_ix ix_tup (pv 0) pe_int (fun _ _ => rfl)))
  (pss_cons (ps_if (pt_cmpR op_eq (pv 1) pe_str (nomark _)) (pss_one (ps_ret pe_str)) pss_nil)
  (pss_cons (ps_if (pt_cmpR op_eq (pv 1) pe_str (nomark _)) (pss_one (ps_ret (pe_ix ix_tup (pv 0) pe_int (fun _ _ => rfl)))) pss_nil)
  (pss_cons (ps_if (pt_cmpR op_eq (pv 1) pe_str (nomark _)) (pss_one (ps_ret (pe_ifExp (pt_cmpR op_gt (pe_callB call_len_seq (by rfl) T.n_len PySem.boot_len (pa_cons (pv 0) pa_nil)) pe_int (nomark _)) (pe_joined (PJ.cons pe_str (PJ.cons (pe_fmt (pe_join pe_str (pe_slice sl_tup (pv 0) (po_some pe_int) po_none))) (PJ.cons pe_str PJ.nil)))) pe_str))) pss_nil)
  (pss_cons (ps_if (pt_cmpR op_eq (pv 1) pe_str (nomark _)) (pss_one (ps_ret (pe_joined (PJ.cons pe_str (PJ.cons (pe_fmt (pe_call G_spelled (hr.mono (by omega)) (by rfl) T.g_spelled T.spelled.kp T.b_spelled .nil pass0 (pa_cons (pe_ix ix_tup (pv 0) pe_int (fun _ _ => rfl)) pa_nil))) PJ.nil))))) pss_nil)
  (pss_one (ps_ret (pe_joined (PJ.cons pe_str (PJ.cons (pe_fmt (pe_call G_spelled (hr.mono (by omega)) (by rfl) T.g_spelled T.spelled.kp T.b_spelled .nil pass0 (pa_cons (pe_ix ix_tup (pv 0) pe_int (fun _ _ => rfl)) pa_nil))) (PJ.cons pe_str (PJ.cons (pe_fmt (pv 1)) (PJ.cons pe_str (PJ.cons (pe_fmt (pe_call G_spelled (hr.mono (by omega)) (by rfl) T.g_spelled T.spelled.kp T.b_spelled .nil pass0 (pa_cons (pe_ix ix_tup (pv 0) pe_int (fun _ _ => rfl)) pa_nil))) (PJ.cons pe_str PJ.nil))))))))))))))), ?_⟩
      dsimp only [cxOf]
      cases f with
      | alw =>
        obtain ⟨p, rfl, hp⟩ := hv
        walk_at "rd"
        exact k H (Same.refl H)
      | has z =>
        obtain ⟨p, rfl, hp⟩ := hv
        walk_at "rd"
        exact k H (Same.refl H)
      | tog zs =>
        obtain ⟨p, rfl, hp⟩ := hv
        have e1 := at0 (x := .str "together") (xs := zs.map V.str)
        have e2 := nwhole (x := .str "together") (xs := zs.map V.str)
        have tl := txt_len10 ho (by omega)
        walk_at "rd"
        rw [List.length_cons, List.length_map]
        cases zs with
        | nil =>
          refine iteF ?_
          have z := k H (Same.refl H)
          rw [show Fm.txt (.tog []) = "together()" by decide +kernel] at z
          exact z
        | cons z0 zr =>
          rw [decide_eq_true (by rw [List.length_cons]; omega : (1 : Int) < (((z0 :: zr).length + 1 : Nat) : Int))]
          refine iteT ?_
          have s1 := sum_len ho.1
          have s2 := ho.2
          have s3 := join_len (z0 :: zr)
          refine ⟨_, rfl, ?_, ?_⟩
          · rw [app_nil, l_tog, sizeLine_eq]; omega
          have js : ((z0 :: zr).map (·.length)).sum + (z0 :: zr).length * (Str.ofString " ").length ≤ 16777216 := by
            rw [show (Str.ofString " ").length = 1 from l_sp]; omega
          walk_at "rd"
          intro p3 hp3
          rw [cut1]
          refine ⟨_, _, z0 :: zr, rfl, rfl, .inr (SqT.of upd_same), js, ?_⟩
          refine .inl ⟨_, rfl, by rw [sizeLine_eq]; omega, ?_⟩
          refine ⟨_, rfl, ?_, ?_⟩
          · rw [app_nil, app_len, l_tog, sizeLine_eq]; omega
          refine ⟨_, rfl, ?_, ?_⟩
          · rw [app_nil, app_len, app_len, l_tog, l_cl, sizeLine_eq]; omega
          have z := k _ ((Same.refl H).new (o := .tup ((z0 :: zr).map V.str)) hp3)
          show Q (.str (Str.empty ++ "together(" ++ Txt.join " " (z0 :: zr) ++ ")")) _
          rw [app_nil]
          exact z
      | nt f =>
        obtain ⟨p, x, rfl, hp, hx⟩ := hv
        have hd' : f.dep < n := by
          have : f.dep + 1 < n + 1 := hd
          omega
        have tl := txt_len10 (f := f) ho (by omega)
        walk_at "rd"
        refine ⟨f, x, rfl, hd', by omega, ho, hx, fun H1 s1 => ?_⟩
        refine .inl ⟨_, rfl, by rw [sizeLine_eq]; omega, ?_⟩
        refine ⟨_, rfl, ?_, ?_⟩
        · rw [app_nil, app_len, l_not, sizeLine_eq]; omega
        show Q (.str (Str.empty ++ "not " ++ f.txt)) _
        rw [app_nil]
        exact k H1 s1
      | bin w' f g =>
        obtain ⟨p, x, y, rfl, hp, hx, hy⟩ := hv
        have hd' : max f.dep g.dep + 1 < n + 1 := hd
        have hf : f.dep < n := by omega
        have hg : g.dep < n := by omega
        obtain ⟨o1, o2, o3, o4⟩ := ho
        have t1 := txt_len10 (f := f) o2 (by omega)
        have t2 := txt_len10 (f := g) o3 (by omega)
        have t3 := l_ops o1
        have o1 : w' = "and" ∨ w' = "or" ∨ w' = "needs" := by simpa [opsS] using o1
        rcases o1 with rfl | rfl | rfl
        all_goals
          walk_at "rd"
          refine ⟨f, x, rfl, hf, by omega, o2, hx, fun H1 s1 => ?_⟩
          have hp1 := s1 _ _ hp
          refine .inl ⟨_, rfl, by rw [sizeLine_eq]; omega, ?_⟩
          refine ⟨_, rfl, ?_, ?_⟩
          · rw [app_nil, app_len, l_op, sizeLine_eq]; omega
          refine ⟨_, rfl, ?_, ?_⟩
          · rw [app_nil, app_len, app_len, l_op, l_sp, sizeLine_eq]; omega
          refine ⟨_, rfl, .inl ⟨_, rfl, by rw [sizeLine_eq]; omega, ?_⟩⟩
          refine ⟨_, rfl, ?_, ?_⟩
          · rw [app_nil, app_len, app_len, app_len, l_op, l_sp, sizeLine_eq]; omega
          refine ⟨_, rfl, ?_, ?_⟩
          · rw [app_nil, app_len, app_len, app_len, app_len, l_op, l_sp, sizeLine_eq]; omega
          walk_at "rd"
          refine ⟨g, y, rfl, hg, by omega, o3, hy.im s1.im, fun H2 s2 => ?_⟩
          refine .inl ⟨_, rfl, by rw [sizeLine_eq]; omega, ?_⟩
          refine ⟨_, rfl, ?_, ?_⟩
          · rw [app_nil, app_len, app_len, app_len, app_len, app_len, l_op, l_sp, sizeLine_eq]; omega
          refine ⟨_, rfl, ?_, ?_⟩
          · rw [app_nil, app_len, app_len, app_len, app_len, app_len, app_len, l_op, l_sp, l_cl, sizeLine_eq]; omega
          have z := k H2 (s1.trans s2)
          refine cast ?_ z
          rw [show ∀ w'' : Str, Fm.txt (.bin w'' f g) = "(" ++ f.txt ++ " " ++ w'' ++ " " ++ g.txt ++ ")" from fun _ => rfl, app_nil]
          rfl
def spStrR (a : Ad) (n : Nat) : Sp := fun vs H Q _ => ∃ f v, vs = [v] ∧ RuAt a H f v ∧ f.dep < n ∧ n ≤ 10 ∧ ∀ H', Same H H' → Q (.str f.txt) H'
theorem ok_RuleU_strU (T : Txt K mg a d) (n : Nat) : FnOk P w K mg base CX0 (n + 1) a.RuleU_strU d.RuleU_strU ["self"] (spStrR a n) := by
  have G_spelled := ok_spelled (w := w) (base := base) T n
  refine T.RuleU_strU.ok sc_RuleU_strU (fun vs H Q E h => ?_) (fun cdv A outer s H vs Q E hr h => ?_)
  · obtain ⟨f, v, rfl, _⟩ := h
    rfl
  · obtain ⟨f, v, rfl, ⟨p, dx, x, rfl, hp, hf, ho⟩, hd, hn, k⟩ := h
    have c1 := T.k_Rule
    have n1 := T.na_Rule_form
    have tl := txt_len10 ho (by omega)
    refine ⟨_, (pss_one (ps_ret (pe_joined1 (pe_fmt (pe_call G_spelled (hr.mono (by omega)) (by rfl) T.g_spelled T.spelled.kp T.b_spelled .nil pass0 (pa_cons (pe_fld (pv 0) rfl) pa_nil)))))), ?_⟩
    try dsimp only [cxOf]
    walk_at "rd"
    refine ⟨f, x, rfl, hd, hn, ho, hf, fun H1 s1 => ?_⟩
    exact .inl ⟨_, rfl, by rw [sizeLine_eq]; omega, k H1 s1⟩
/-! ### the law's text of a node -/
/-! ### k18: the drawing defs -/
def conjG : Fm → List Str → Fm := fun f r => r.foldl (fun f y => .bin "and" f (.has y)) f
theorem conjG_dep : ∀ (r : List Str) (f : Fm), (conjG f r).dep ≤ f.dep + r.length
  | [], f => Nat.le_refl _
  | y :: r, f => by
    have := conjG_dep r (.bin "and" f (.has y))
    have e : (Fm.bin "and" f (.has y)).dep = f.dep + 1 := by
      show max f.dep 0 + 1 = _
      simp
    show (conjG (.bin "and" f (.has y)) r).dep ≤ f.dep + (r.length + 1)
    omega
theorem and_recs {f : Fm} {l : List Str} (h : f.recs = sortT (setT l)) (y : Str) : (Fm.bin "and" f (.has y)).recs = sortT (setT (l ++ [y])) := by
  show sortT (setT (f.recs ++ (Fm.has y).recs)) = _
  rw [h]
  refine sortT_set fun k => ?_
  rw [List.mem_append, sortT_mem, setT_mem, List.mem_append]
  show k ∈ l ∨ k ∈ sortT (setT [y]) ↔ _
  rw [sortT_mem, setT_mem]
theorem conjG_recs : ∀ (r : List Str) (f : Fm) (l : List Str), f.recs = sortT (setT l) → (conjG f r).recs = sortT (setT (l ++ r))
  | [], f, l, h => by rw [List.append_nil]; exact h
  | y :: r, f, l, h => by
    have := conjG_recs r _ _ (and_recs h y)
    rw [List.append_assoc] at this
    exact this
abbrev conjF (z : Str) (r : List Str) : Fm := conjG (.has z) r
theorem conjF_dep (z : Str) (r : List Str) : (conjF z r).dep ≤ r.length := by
  have := conjG_dep r (.has z)
  have e : (Fm.has z).dep = 0 := rfl
  show (conjG (.has z) r).dep ≤ _
  omega
theorem conjF_recs (z : Str) (r : List Str) : (conjF z r).recs = sortT (setT (z :: r)) := conjG_recs r (.has z) [z] rfl
theorem conjG_take (f : Fm) (r : List Str) (i : Nat) (y : Str) (h : r[i]? = some y) : conjG f (r.take (i + 1)) = .bin "and" (conjG f (r.take i)) (.has y) := by
  rw [List.take_add_one, h]
  unfold conjG
  rw [Option.toList_some, List.foldl_append]; rfl
def spConj (a : Ad) : Sp := fun vs H Q _ => ∃ (_ : Unit) (q : Addr) (z : Str) (r : List Str), vs = [.ref q] ∧ H q = some (.lst ((z :: r).map V.str)) ∧ r.length ≤ 5 ∧ (∀ y ∈ z :: r, IsWord y) ∧ outR a (conjF z r) H Q
theorem has_of {a : Ad} {y : Str} {H : Hp} {Q : VK} {E : XK} (hy : IsWord y) (k : outR a (.has y) H Q) : Thing H (.str y) ∧ (if wordS y = true then outR a (.has y) H Q else errQ a.BadWord ef_BadWord [.str y] H E) := by
  refine ⟨.str y (by rw [← len_toList]; have := hy.hi; omega) (fun c hc => by have := hy.al c hc; omega), ?_⟩
  rw [if_pos hy.ok]
  exact k
theorem ok_law_conjunction (T : Txt K mg a d) : FnOk P w K mg base CX0 11 a.law_conjunction d.law_conjunction ["_law_words"] (spConj a) := by
  have G_Rule_has : FnOk P w K mg base (L2.CX P w) 3 a.Rule_has d.Rule_has ["record"] (spRHas a) := ok_Rule_has T
  have G_RuleU_andU : FnOk P w K mg base (L2.CX P w) 10 a.RuleU_andU d.RuleU_andU ["self", "other"] (spBin a 7 "and") := ok_RuleU_andU T 7
  refine T.law_conjunction.ok sc_law_conjunction (fun vs H Q E h => ?_) (fun cdv A outer s H vs Q E hr h => ?_)
  · obtain ⟨_, q, z, r, rfl, _⟩ := h
    rfl
  · obtain ⟨_, q, z, r, rfl, hq, lr, hw, k⟩ := h
    refine ⟨_, (pss_cons (ps_set (i := 1) sc_law_conjunction.nd rfl (Or.inl rfl) (pe_smeth (pe_glob (v := .ref a.Rule) (by rfl) T.g_Rule rfl) T.r_Rule T.s_Rule_has G_Rule_has (hr.mono (by decide)) T.Rule_has.kp T.b_Rule_has .nil passL (pa_cons (pe_ix ix_list (pv 0) pe_int (fun _ _ => rfl)) pa_nil)))
  (pss_cons (ps_for PassesOwn.never rfl (pi_list (pe_slice sl_list (pv 0) (po_some pe_int) po_none)) (pg_name (i := 2) sc_law_conjunction.nd rfl (Or.inl rfl))
  (pss_one (ps_set (i := 1) sc_law_conjunction.nd rfl (Or.inl rfl) (pe_op (op_own (T.m_RuleU_andU.at_) (T.m_RuleU_andU.fn) T.sf_Rule G_RuleU_andU (hr.mono (by decide)) T.b_RuleU_andU passL) (pv 1) (pe_smeth (pe_glob (v := .ref a.Rule) (by rfl) T.g_Rule rfl) T.r_Rule T.s_Rule_has G_Rule_has (hr.mono (by decide)) T.Rule_has.kp T.b_Rule_has .nil passL (pa_cons (pv 2) pa_nil))))))
  (pss_one (ps_ret (pv 1))))), ?_⟩
    try dsimp only [cxOf]
    have a0 : atI ((z :: r).map V.str) 0 = some (.str z) := atI_nat (show ((z :: r).map V.str)[0]? = some (.str z) from rfl)
    walk_at "rd"
    refine has_of (hw z List.mem_cons_self) fun H1 v s1 rv => ?_
    have q1 := s1 _ _ hq
    walk_at "rd"
    intro q2 hq2
    have s2 := s1.new (o := .lst (r.map V.str)) hq2
    have e2 : (upd H1 q2 (.lst (cutV ((z :: r).map V.str) (some 1) none))) q2 = some (.lst (r.map V.str)) := upd_same.trans (by rw [List.map_cons, cut1])
    have r2 := rv.im ((Same.refl H1).new (o := .lst (cutV ((z :: r).map V.str) (some 1) none)) hq2).im
    have s2 := s1.new (o := .lst (cutV ((z :: r).map V.str) (some 1) none)) hq2
    generalize upd H1 q2 (.lst (cutV ((z :: r).map V.str) (some 1) none)) = H2 at s2 e2 r2 ⊢
    refine ⟨q2, rfl, ⟨_, SqL.of e2⟩, ?_⟩
    refine for_list (xs := r.map V.str) (fun i σ F => Same H2 F ∧ ∃ (v : V) (v2 : Option V), RuAt a F (conjF z (r.take i)) v ∧ σ = [some (.ref q), some v, v2]) ?_ ?_ ?_ ?_
    · exact ⟨Same.refl _, v, _, r2, rfl⟩
    · rintro i σ F _ ⟨sF, _⟩
      exact SqL.of (sF _ _ e2)
    · rintro i u σ F hu ⟨sF, v, v2, rv, rfl⟩
      obtain ⟨y, hy, rfl⟩ : ∃ w, r[i]? = some w ∧ u = .str w := by
        rw [List.getElem?_map] at hu
        cases q : r[i]? with
        | none => rw [q] at hu; cases hu
        | some z => rw [q] at hu; cases hu; exact ⟨z, rfl, rfl⟩
      have ly := (List.getElem?_eq_some_iff.mp hy).1
      have wy := hw y (List.mem_cons_of_mem _ (List.mem_of_getElem? hy))
      walk_at "rd"
      refine has_of wy fun H3 vy s3 ry => ?_
      have rv3 := rv.im s3.im
      obtain ⟨p1, dx1, x1, rfl, hp1, f1⟩ := rv3
      obtain ⟨p2, dx2, x2, rfl, hp2, f2⟩ := ry
      have dl := conjF_dep z (r.take i)
      have li : (r.take i).length ≤ i := by rw [List.length_take]; omega
      refine ⟨p1, p2, dx1, dx2, _, _, rfl, rfl, hp1, hp2, conjF z (r.take i), .has y, _, _, rfl, ⟨p1, dx1, x1, rfl, hp1, f1⟩, ⟨p2, dx2, x2, rfl, hp2, f2⟩, by omega, by show 0 < 7; omega, ?_⟩
      rw [if_neg]
      · intro H4 v4 s4 r4
        rw [← conjG_take _ _ _ _ hy] at r4
        exact ⟨by obtain ⟨p4, _, _, e, _⟩ := r4; exact ⟨p4, e⟩, (sF.trans s3).trans s4, v4, _, r4, rfl⟩
      · rw [conjF_recs]
        have h1 := setT_len (xs := sortT (setT (z :: r.take i)) ++ (Fm.has y).recs)
        rw [List.length_append, sortT_len] at h1
        have h2 := setT_len (xs := z :: r.take i)
        have h3 : (Fm.has y).recs.length ≤ 1 := by
          show (sortT (setT [y])).length ≤ 1
          rw [sortT_len]
          exact setT_len (xs := [y])
        rw [List.length_cons] at h2
        omega
    · rintro σ F ⟨sF, v, v2, rv, rfl⟩
      rw [List.length_map, List.take_length] at rv
      walk_at "rd"
      exact k _ _ (s2.trans sF) rv
/-! ### k18: _law_eight, _law_odd -/
section
open PySem PySem.Spec PyProof.Rows
theorem same_seqT {K : PySem.W.Frag} {H H' : Hp} {a : Addr} {xs : List V} (e : Same H H') (h : SqT K H a xs) : SqT K H' a xs := by
  rcases h with (h | ⟨o, h⟩) | h
  · exact .inl (.inl (e _ _ h))
  · exact .inl (.inr ⟨o, e _ _ h⟩)
  · exact .inr h
mutual
theorem dp_same {K : PySem.W.Frag} {H H' : Hp} (e : Same H H') : ∀ {d : PyData} {v : V}, Dp K H v d → Dp K H' v d
  | _, _, .non => .non
  | _, _, .bl b => .bl b
  | _, _, .int i => .int i
  | _, _, .str x => .str x
  | _, _, .lst h r => .lst (e.seq h) (dpa_same e r)
  | _, _, .tup h r => .tup (same_seqT e h) (dpa_same e r)
theorem dpa_same {K : PySem.W.Frag} {H H' : Hp} (e : Same H H') : ∀ {ds : List PyData} {vs : List V}, DpAll K H vs ds → DpAll K H' vs ds
  | _, _, .nil => .nil
  | _, _, .cons h r => .cons (dp_same e h) (dpa_same e r)
end
end
def spEight (a : Ad) : Sp := fun vs H Q E => ∃ (_ : Unit) (q : Addr) (x0 x1 x2 x3 x4 x5 x6 x7 : V), vs = [.ref q] ∧ H q = some (.lst [x0, x1, x2, x3, x4, x5, x6, x7]) ∧ (∀ x ∈ [x0, x1, x2, x3, x4, x5, x6, x7], Thing H x) ∧ ∀ H', Same H H' → outT a [x0, x1, x2, x3, x4, x5, x6, x7] H' Q E
theorem ok_law_eight (T : Txt K mg a d) : FnOk P w K mg base (L2.CX P w) 4 a.law_eight d.law_eight ["_law_w"] (spEight a) := by
  have R_Rule_together := ok_Rule_together (w := w) (base := base) T
  refine T.law_eight.okX sc_law_eight (fun vs H Q E h => ?_) (fun cdv A outer s H vs Q E hr h => ?_)
  · obtain ⟨_, q, _, _, _, _, _, _, _, _, rfl, _⟩ := h
    rfl
  · obtain ⟨_, q, x0, x1, x2, x3, x4, x5, x6, x7, rfl, hq, tx, k⟩ := h
    refine ⟨_, (pss_one (ps_ret (pe_smethR (pe_glob (v := .ref a.Rule) (by rfl) T.g_Rule rfl) T.r_Rule T.s_Rule_together R_Rule_together (hr.mono (by decide)) T.Rule_together.kp (passes_call (takes_of rfl rfl rfl rfl) (fun _ _ _ _ h => h)) (pa_cons (pe_ix ix_list (pv 0) pe_int (fun _ _ => rfl)) (pa_cons (pe_ix ix_list (pv 0) pe_int (fun _ _ => rfl)) (pa_cons (pe_ix ix_list (pv 0) pe_int (fun _ _ => rfl)) (pa_cons (pe_ix ix_list (pv 0) pe_int (fun _ _ => rfl)) (pa_cons (pe_ix ix_list (pv 0) pe_int (fun _ _ => rfl)) (pa_cons (pe_ix ix_list (pv 0) pe_int (fun _ _ => rfl)) (pa_cons (pe_ix ix_list (pv 0) pe_int (fun _ _ => rfl)) (pa_cons (pe_ix ix_list (pv 0) pe_int (fun _ _ => rfl)) pa_nil))))))))))), ?_⟩
    try dsimp only [cxOf]
    have a0 : atI [x0, x1, x2, x3, x4, x5, x6, x7] 0 = some x0 := rfl
    have a1 : atI [x0, x1, x2, x3, x4, x5, x6, x7] 1 = some x1 := rfl
    have a2 : atI [x0, x1, x2, x3, x4, x5, x6, x7] 2 = some x2 := rfl
    have a3 : atI [x0, x1, x2, x3, x4, x5, x6, x7] 3 = some x3 := rfl
    have a4 : atI [x0, x1, x2, x3, x4, x5, x6, x7] 4 = some x4 := rfl
    have a5 : atI [x0, x1, x2, x3, x4, x5, x6, x7] 5 = some x5 := rfl
    have a6 : atI [x0, x1, x2, x3, x4, x5, x6, x7] 6 = some x6 := rfl
    have a7 : atI [x0, x1, x2, x3, x4, x5, x6, x7] 7 = some x7 := rfl
    walk_at "rd"
    exact fun p hp => k _ ((Same.refl H).new hp)
structure OddV (K : PySem.W.Frag) (H : Hp) (v : V) : Prop where
  th : Thing H v
  nw : wordB v = false
  dt : ∃ dt, Dp K H v dt ∧ SeqAt.shaped (.tuple [.str "badword", dt]) = true
theorem OddV.same {K : PySem.W.Frag} {H H' : Hp} {v : V} (h : OddV K H v) (s : Same H H') : OddV K H' v := by
  obtain ⟨dt, h1, h2⟩ := h.dt
  exact ⟨h.th.same s, h.nw, dt, dp_same s h1, h2⟩
theorem sh_odd {z : Str} (h : asc z) : SeqAt.shaped (.tuple [.str "badword", .str z]) = true := by
  show (PyData.strOk "badword" && (PyData.strOk z && true) && decide _) = true
  rw [asc_ok h, show PyData.strOk "badword" = true by decide +kernel]; rfl
theorem sh_oddT {z : Str} (h : asc z) : SeqAt.shaped (.tuple [.str "badword", .tuple [.str z]]) = true := by
  show (PyData.strOk "badword" && ((PyData.strOk z && true) && true) && decide _) = true
  rw [asc_ok h, show PyData.strOk "badword" = true by decide +kernel]; rfl
theorem sh_oddL {z : Str} (h : asc z) : SeqAt.shaped (.tuple [.str "badword", .list [.str z]]) = true := by
  show (PyData.strOk "badword" && ((PyData.strOk z && true) && true) && decide _) = true
  rw [asc_ok h, show PyData.strOk "badword" = true by decide +kernel]; rfl
theorem up_word {z : Str} (h : IsWord z) : asc (Txt.upper z) ∧ (Txt.upper z).length ≤ 1000 ∧ wordB (.str (Txt.upper z)) = false := by
  have hA : ∀ c ∈ z.cps.toList, c < 128 := fun c hc => by have := h.al c hc; omega
  rw [PyProof.Rows.upper_ascii hA]
  have key : ∀ c ∈ (z.cps.map PyProof.Rows.up1).toList, c < 97 := fun c hc => by
    rw [Array.toList_map] at hc
    obtain ⟨d, hd, rfl⟩ := List.mem_map.mp hc
    have := h.al d hd
    show (if _ then _ else _) < 97
    rw [if_pos (by omega)]
    omega
  have len : (z.cps.map PyProof.Rows.up1).toList.length = z.cps.toList.length := by rw [Array.toList_map, List.length_map]
  refine ⟨fun c hc => by have := key c hc; omega, ?_, ?_⟩
  · rw [← len_toList]
    have := h.hi
    show (z.cps.map PyProof.Rows.up1).toList.length ≤ 1000
    omega
  · show wordS _ = false
    unfold wordS
    have : (z.cps.map PyProof.Rows.up1).toList.all okC = false := by
      cases e : (z.cps.map PyProof.Rows.up1).toList with
      | nil =>
        rw [e, List.length_nil] at len
        have := h.lo
        omega
      | cons c r =>
        have := key c (by rw [e]; exact List.mem_cons_self)
        rw [List.all_cons]
        unfold okC
        rw [decide_eq_false (by omega)]; rfl
    show (_ && (z.cps.map PyProof.Rows.up1).toList.all okC) = false
    rw [this, Bool.and_false]
/-! ### k18: _law_odd -/
def spOdd (K : PySem.W.Frag) : Sp := fun vs H Q _ => ∃ (p : Addr) (c : Nat) (o : HO), vs = [.ref p] ∧ H p = some o ∧ PoolO o c ∧ c < 2 ^ 29 ∧ ∀ v o' H', PoolO o' (c + 10) → H' p = some o' → (∀ H2, Kp (fun b => b = p) H' H2 → OddV K H2 v) → Kp (fun b => b = p) H H' → Q v H'
theorem app_asc {z y : Str} (hz : asc z) (hy : asc y) : asc (z ++ y) := fun c hc => by
  have e : (z ++ y).cps.toList = z.cps.toList ++ y.cps.toList := by
    show (z.cps ++ y.cps).toList = _
    rw [Array.toList_append]
  rw [e] at hc
  rcases List.mem_append.mp hc with q | q
  · exact hz c q
  · exact hy c q
theorem app_nw {z y : Str} (h : ∃ c ∈ y.cps.toList, okC c = false) : wordS (z ++ y) = false := by
  unfold wordS
  have e : (z ++ y).cps.toList = z.cps.toList ++ y.cps.toList := by
    show (z.cps ++ y.cps).toList = _
    rw [Array.toList_append]
  obtain ⟨c, hc, hn⟩ := h
  have : (z ++ y).cps.toList.all okC = false := by
    rw [e, List.all_append]
    have : y.cps.toList.all okC = false := List.all_eq_false.mpr ⟨c, hc, by rw [hn]; simp⟩
    rw [this, Bool.and_false]
  rw [this, Bool.and_false]
theorem app_nl {z y : Str} (h : 9 ≤ (z ++ y).length) : wordS (z ++ y) = false := by
  unfold wordS
  rw [decide_eq_false (p := (z ++ y).length ≤ 8) (by omega), Bool.and_false, Bool.false_and]
theorem ok_law_odd (T : Txt K mg a d) : FnOk P w K mg base CX0 3 a.law_odd d.law_odd ["_law_pool_here"] (spOdd K) := by
  have G_law_draw : FnOk P w K mg base CX0 1 a.law_draw d.law_draw ["_law_pool_here", "_law_many"] spDraw := ok_law_draw T
  have G_law_word : FnOk P w K mg base CX0 2 a.law_word d.law_word ["_law_pool_here"] spWord := ok_law_word T
  refine T.law_odd.ok sc_law_odd (fun vs H Q E h => ?_) (fun cdv A outer s H vs Q E hr h => ?_)
  · obtain ⟨p, c, o, rfl, _⟩ := h
    rfl
  · obtain ⟨p, c, o, rfl, hp, ho, hc, k⟩ := h
    refine ⟨_, (pss_cons (ps_set (i := 1) sc_law_odd.nd rfl (Or.inl rfl) (pe_call G_law_word (hr.mono (by decide)) (by rfl) T.g_law_word T.law_word.kp T.b_law_word .nil pass0 (pa_cons (pv 0) pa_nil)))
  (pss_one (ps_ret (pe_ix ix_list (pe_lst (pa_cons pe_non (pa_cons pe_str (pa_cons (pe_op op_add_str (pv 1) pe_str) (pa_cons (pe_upper (pv 1)) (pa_cons pe_int (pa_cons pe_bl (pa_cons (pe_tup (pa_cons (pv 1) pa_nil)) (pa_cons (pe_lst (pa_cons (pv 1) pa_nil)) (pa_cons (pe_op op_add_str (pv 1) pe_str) pa_nil)))))))))) (pe_call G_law_draw (hr.mono (by decide)) (by rfl) T.g_law_draw T.law_draw.kp T.b_law_draw .nil pass0 (pa_cons (pv 0) (pa_cons pe_int pa_nil))) (fun _ _ => rfl))))), ?_⟩
    try dsimp only [cxOf]
    walk_at "rd"
    intro w1 o1 H1 hw1 h1 hp1 kp1
    have L8 : w1.length ≤ 8 := by rw [← len_toList]; exact hw1.hi
    have L1 : 1 ≤ w1.length := by rw [← len_toList]; exact hw1.lo
    have wa : asc w1 := fun c hc => by have := hw1.al c hc; omega
    have el : (Str.ofString "abcdefgh").length = 8 := by decide +kernel
    have es : (Str.ofString " ").length = 1 := by decide +kernel
    have ae : asc (Str.ofString "abcdefgh") := by
      show ∀ c ∈ (Str.ofString "abcdefgh").cps.toList, c < 128
      decide +kernel
    have as_ : asc (Str.ofString " ") := by
      show ∀ c ∈ (Str.ofString " ").cps.toList, c < 128
      decide +kernel
    walk_at "rd"
    refine ⟨by rw [el, sizeLine_eq]; omega, ?_⟩
    walk_at "rd"
    intro q1 hq1
    have n1 : q1 ≠ p := Ne.symm (ne_of_none hp1 hq1)
    have kp2 : Kp (fun b => b = p) H (upd H1 q1 (.tup [V.str w1])) := kp1.new hq1
    have hp2 : (upd H1 q1 (.tup [V.str w1])) p = some o1 := upd_oth (Ne.symm n1) hp1
    have t2 := upd_same (H := H1) (a := q1) (o := .tup [V.str w1])
    generalize upd H1 q1 (.tup [V.str w1]) = H2 at kp2 hp2 t2 ⊢
    walk_at "rd"
    intro q2 hq2
    have n2 : q2 ≠ p := Ne.symm (ne_of_none hp2 hq2)
    have kp3 : Kp (fun b => b = p) H (upd H2 q2 (.lst [V.str w1])) := kp2.new hq2
    have hp3 : (upd H2 q2 (.lst [V.str w1])) p = some o1 := upd_oth (Ne.symm n2) hp2
    have t3 : (upd H2 q2 (.lst [V.str w1])) q1 = some (.tup [V.str w1]) := upd_old t2 hq2
    have l3 := upd_same (H := H2) (a := q2) (o := .lst [V.str w1])
    generalize upd H2 q2 (.lst [V.str w1]) = H3 at kp3 hp3 t3 l3 ⊢
    walk_at "rd"
    refine ⟨by rw [es, sizeLine_eq]; omega, ?_⟩
    walk_at "rd"
    intro q3 hq3
    have n3 : q3 ≠ p := Ne.symm (ne_of_none hp3 hq3)
    have m31 : q1 ≠ q3 := ne_of_none t3 hq3
    have m32 : q2 ≠ q3 := ne_of_none l3 hq3
    have kp4 : Kp (fun b => b = p) H (upd H3 q3 (.lst [.non, .str "", .str (w1 ++ "abcdefgh"), .str (Txt.upper w1), .int 5, .bl true, .ref q1, .ref q2, .str (w1 ++ " ")])) := kp3.new hq3
    have hp4 : (upd H3 q3 (.lst [.non, .str "", .str (w1 ++ "abcdefgh"), .str (Txt.upper w1), .int 5, .bl true, .ref q1, .ref q2, .str (w1 ++ " ")])) p = some o1 := upd_oth (Ne.symm n3) hp3
    have t4 : (upd H3 q3 (.lst [.non, .str "", .str (w1 ++ "abcdefgh"), .str (Txt.upper w1), .int 5, .bl true, .ref q1, .ref q2, .str (w1 ++ " ")])) q1 = some (.tup [V.str w1]) := upd_old t3 hq3
    have l4 : (upd H3 q3 (.lst [.non, .str "", .str (w1 ++ "abcdefgh"), .str (Txt.upper w1), .int 5, .bl true, .ref q1, .ref q2, .str (w1 ++ " ")])) q2 = some (.lst [V.str w1]) := upd_old l3 hq3
    have d4 := upd_same (H := H3) (a := q3) (o := .lst [.non, .str "", .str (w1 ++ "abcdefgh"), .str (Txt.upper w1), .int 5, .bl true, .ref q1, .ref q2, .str (w1 ++ " ")])
    generalize upd H3 q3 _ = H4 at kp4 hp4 t4 l4 d4 ⊢
    walk_at "rd"
    intro r5 o5 r50 r51 h5
    have hp5 := upd_same (H := H4) (a := p) (o := o5)
    have kp5 : Kp (fun b => b = p) H (upd H4 p o5) := kp4.set1
    have t5 : (upd H4 p o5) q1 = some (.tup [V.str w1]) := upd_oth n1 t4
    have l5 : (upd H4 p o5) q2 = some (.lst [V.str w1]) := upd_oth n2 l4
    have d5 : (upd H4 p o5) q3 = some (.lst [.non, .str "", .str (w1 ++ "abcdefgh"), .str (Txt.upper w1), .int 5, .bl true, .ref q1, .ref q2, .str (w1 ++ " ")]) := upd_oth n3 d4
    generalize upd H4 p o5 = H5 at hp5 kp5 t5 l5 d5 ⊢
    have O : ∀ H6, Kp (fun b => b = p) H5 H6 → ∀ v, v ∈ [V.non, .str "", .str (w1 ++ "abcdefgh"), .str (Txt.upper w1), .int 5, .bl true, .ref q1, .ref q2, .str (w1 ++ " ")] → OddV K H6 v := by
      intro H6 k6 v hv
      have t6 := k6 _ _ t5 n1
      have l6 := k6 _ _ l5 n2
      obtain ⟨u1, u2, u3⟩ := up_word hw1
      simp only [List.mem_cons, List.not_mem_nil, or_false] at hv
      rcases hv with rfl | rfl | rfl | rfl | rfl | rfl | rfl | rfl | rfl
      · exact ⟨.non, rfl, _, .non, by decide +kernel⟩
      · exact ⟨.str _ (by decide +kernel) (fun c hc => by rw [show (Str.ofString "").cps.toList = [] by decide +kernel] at hc; cases hc), by decide +kernel, _, .str _, by decide +kernel⟩
      · have lz : (w1 ++ (Str.ofString "abcdefgh")).length = w1.length + 8 := by rw [← el]; exact app_len _ _
        exact ⟨.str _ (by omega) (app_asc wa ae), app_nl (by omega), _, .str _, sh_odd (app_asc wa ae)⟩
      · exact ⟨.str _ u2 u1, u3, _, .str _, sh_odd u1⟩
      · exact ⟨.int _, rfl, _, .int _, by decide +kernel⟩
      · exact ⟨.bl _, rfl, _, .bl _, by decide +kernel⟩
      · exact ⟨.tup t6, rfl, _, .tup (SqT.of t6) (.cons (.str _) .nil), sh_oddT wa⟩
      · exact ⟨.lst l6, rfl, _, .lst (SqL.of l6) (.cons (.str _) .nil), sh_oddL wa⟩
      · have lz : (w1 ++ (Str.ofString " ")).length = w1.length + 1 := by rw [← es]; exact app_len _ _
        exact ⟨.str _ (by omega) (app_asc wa as_), app_nw ⟨32, by decide +kernel, by decide +kernel⟩, _, .str _, sh_odd (app_asc wa as_)⟩
    have hr5 : r5.toNat < 9 := by omega
    have er : ((r5.toNat : Nat) : Int) = r5 := by omega
    have hv : [V.non, .str "", .str (w1 ++ "abcdefgh"), .str (Txt.upper w1), .int 5, .bl true, .ref q1, .ref q2, .str (w1 ++ " ")][r5.toNat]? = some ([V.non, .str "", .str (w1 ++ "abcdefgh"), .str (Txt.upper w1), .int 5, .bl true, .ref q1, .ref q2, .str (w1 ++ " ")][r5.toNat]'hr5) := List.getElem?_eq_getElem hr5
    have ha := atI_nat hv
    rw [er] at ha
    refine ⟨q3, _, r5, _, rfl, rfl, SqL.of d5, ha, k _ o5 _ (h5.mono (by omega)) hp5 (fun H6 k6 => O H6 k6 _ (List.mem_of_getElem? hv)) kp5⟩
/-! ### k18: _law_made -/
theorem no_BadWord_word (T : Txt K mg a d) : PySem.W.findIn K (.ref a.BadWord) "word" = some none := T.e_BadWord.noF ("word", .inl 0) (by simp [ef_BadWord])
theorem no_TooMany_what (T : Txt K mg a d) : PySem.W.findIn K (.ref a.TooMany) "what" = some none := T.e_TooMany.noF ("what", .inl 0) (by simp [ef_TooMany])
/-- what a call of a function value comes to -/
inductive Oc
  | bad (v : V)
  | many
  | rule (f : Fm)
def Oc.tag : Oc → Str
  | .bad _ => "badword"
  | .many => "toomany"
  | .rule _ => "rule"
def ocQ (a : Ad) (H : Hp) (Q : VK) (E : XK) : Oc → Prop
  | .bad v => ∀ H', Same H H' → errQ a.BadWord ef_BadWord [v] H' E
  | .many => ∀ H', Same H H' → errQ a.TooMany ef_TooMany [.str "records"] H' E
  | .rule f => outR a f H Q
def PayO (H : Hp) (x : V) : Oc → Prop
  | .bad v => x = v
  | .many => x = .str "records"
  | .rule f => ∃ l, x = .ref l ∧ H l = some (.lst (f.recs.map V.str))
def spMade (P : Program) (w : World) (K : PySem.W.Frag) (mg : Str → Option Value) (base : Heap) (a : Ad) : SpS := fun h outer vs H Q _ => ∃ (f : Addr) (sp : Sp) (oc : Oc), vs = [.ref f] ∧ IsFO H f ∧ FV P w K mg base (L2.CX P w) 11 f sp h H outer ∧ (∀ Q' E', ocQ a H Q' E' oc → sp [] H Q' E') ∧ (∀ f, oc = .rule f → f.dep < 8) ∧
  ∀ H' q x, Same H H' → H q = none → H' q = some (.tup [.str oc.tag, x]) → PayO H' x oc → Q (.ref q) H'
theorem ok_law_made (T : Txt K mg a d) : FnOkS P w K mg base CX0 13 a.law_made d.law_made ["_law_make"] (spMade P w K mg base a) := by
  have G_Rule_records := ok_Rule_records (w := w) (base := base) T 8
  refine fnS0 T.law_made sc_law_made (fun h outer vs H Q E h => ?_) (fun cdv A outer s H vs Q E hr h => ?_)
  · obtain ⟨f, sp, oc, rfl, _⟩ := h
    rfl
  · obtain ⟨f, sp, oc, rfl, hf, F, hs, hd, k⟩ := h
    refine ⟨_, (pss_cons (ps_tryA rfl rfl sc_law_made.nd takes0 (fun W pn xe tk po => (pss_one (ps_set (i := 1) sc_law_made.nd rfl (Or.inl rfl) (show PE _ _ (tCallV P w K mg base (L2.CX P w) 11 0 s.heap H outer (WE W) tNil) from pe_callV0 (j := 11) rfl rfl rfl rfl (hr.mono (by decide)) (by decide) (fun σ => passAt tk σ) rfl (.inl rfl))))) (.consA (i := 2) (.intro (by rfl) (And.intro (by decide) (Or.inl T.g_BadWord))) rfl rfl (fun _ _ _ _ _ hz hf => (pss_one (ps_ret (pe_tup (pa_cons pe_str (pa_cons (pe_xf (xfc T.e_BadWord) (no_BadWord_word T) hz hf (pv 2)) pa_nil)))))) (.consA (i := 2) (.intro (by rfl) (And.intro (by decide) (Or.inl T.g_TooMany))) rfl rfl (fun _ _ _ _ _ hz hf => (pss_one (ps_ret (pe_tup (pa_cons pe_str (pa_cons (pe_xf (xfc T.e_TooMany) (no_TooMany_what T) hz hf (pv 2)) pa_nil)))))) (.cons (.intro (by rfl) (And.intro (by decide) (Or.inl T.g_InnercommitsError))) (fun _ _ _ _ _ hz hf => (pss_one (ps_ret (pe_tup (pa_cons pe_str (pa_cons pe_non pa_nil)))))) .nil))))
  (pss_one (ps_ret (pe_tup (pa_cons pe_str (pa_cons (pe_meth0 (pv 1) T.k_Rule T.m_Rule_records G_Rule_records (hr.mono (by decide)) T.b_Rule_records .nil pass0) pa_nil)))))), ?_⟩
    try dsimp only [cxOf]
    have x1 := T.x_TooMany_BadWord
    walk_at "rd"
    refine ⟨sp, F, hs _ _ ?_⟩
    cases oc with
    | bad v =>
      intro H2 s2 dd gd
      refine ⟨true, T.e_BadWord.te, fun _ ea hea => ?_, fun z => nomatch z⟩
      unfold wCl
      have s3 := s2.new (o := .xd (errF [v] ef_BadWord [])) gd
      have d3 := upd_same (H := H2) (a := dd) (o := .xd (errF [v] ef_BadWord []))
      generalize upd H2 dd (.xd (errF [v] ef_BadWord [])) = H3 at s3 d3 ⊢
      walk_at "rd"
      intro t ht
      exact k _ t _ (s3.new ht) (s3.free ht) upd_same rfl
    | many =>
      intro H2 s2 dd gd
      refine ⟨false, x1, fun z => (nomatch z), fun _ => ⟨true, T.e_TooMany.te, fun _ ea hea => ?_, fun z => nomatch z⟩⟩
      unfold wCl
      have s3 := s2.new (o := .xd (errF [.str "records"] ef_TooMany [])) gd
      have d3 := upd_same (H := H2) (a := dd) (o := .xd (errF [.str "records"] ef_TooMany []))
      generalize upd H2 dd (.xd (errF [.str "records"] ef_TooMany [])) = H3 at s3 d3 ⊢
      walk_at "rd"
      intro t ht
      exact k _ t _ (s3.new ht) (s3.free ht) upd_same rfl
    | rule f =>
      intro H2 r s2 ru
      obtain ⟨p2, dx2, fv, rfl, hp2, hf2, ho2⟩ := ru
      have hd := hd f rfl
      walk_at "rd"
      refine ⟨f, _, rfl, ⟨p2, dx2, fv, rfl, hp2, hf2, ho2⟩, hd, fun H3 q s3 hq fq => ?_⟩
      walk_at "rd"
      intro t ht
      exact k _ t _ ((s2.trans s3).new ht) ((s2.trans s3).free ht) upd_same ⟨q, rfl, upd_old hq ht⟩
/-! ### k18: sorted words -/
theorem srt_of {Z Y : List Str} (hp : Y.Pairwise leT) (nd : Y.Nodup) (h : ∀ k, k ∈ Z ↔ k ∈ Y) : sortT (setT Z) = Y :=
  pw_unique ((sortT_perm (setT Z)).trans (nd_perm setT_nd nd fun k => by rw [setT_mem]; exact h k)) (sortT_pw _) hp
structure W13 (W : List Str) : Prop where
  len : W.length = 13
  nd : W.Nodup
  pw : W.Pairwise leT
  iw : ∀ z ∈ W, IsWord z
theorem w13_of {L : List Str} (hl : L.length = 13) (nd : L.Nodup) (iw : ∀ z ∈ L, IsWord z) : W13 (sortT (setT L)) where
  len := by
    have p : (setT L).Perm L := nd_perm setT_nd nd fun k => setT_mem
    rw [sortT_len, p.length_eq, hl]
  nd := (sortT_perm _).nodup_iff.mpr setT_nd
  pw := sortT_pw _
  iw := fun z hz => iw z (by rw [sortT_mem, setT_mem] at hz; exact hz)
def lastC (z : Str) : Option Nat := z.cps.toList.getLast?
structure L13 (L : List Str) (j : Nat) : Prop where
  len : L.length = j
  last : ∀ i z, L[i]? = some z → lastC z = some (97 + i)
  iw : ∀ z ∈ L, IsWord z
theorem L13.nil : L13 [] 0 := ⟨rfl, fun i z h => by simp at h, fun z h => nomatch h⟩
theorem L13.snoc {L : List Str} {j : Nat} {z : Str} (h : L13 L j) (hz : lastC z = some (97 + j)) (iz : IsWord z) : L13 (L ++ [z]) (j + 1) where
  len := by rw [List.length_append, h.len]; rfl
  last := fun i y hy => by
    rw [List.getElem?_append] at hy
    split at hy
    · exact h.last i y hy
    · rename_i q
      have := h.len
      cases e : i - L.length with
      | zero =>
        rw [e] at hy
        cases hy
        have : i = j := by omega
        rw [this]; exact hz
      | succ n =>
        rw [e] at hy
        simp at hy
  iw := fun y hy => by
    rcases List.mem_append.mp hy with q | q
    · exact h.iw y q
    · exact List.mem_singleton.mp q ▸ iz
theorem L13.nd {L : List Str} {j : Nat} (h : L13 L j) : L.Nodup := by
  rw [List.nodup_iff_pairwise_ne, List.pairwise_iff_getElem]
  intro i k hi hk hik e
  have a := h.last i _ (List.getElem?_eq_getElem hi)
  have b := h.last k _ (List.getElem?_eq_getElem hk)
  rw [e, b] at a
  have := Option.some.inj a
  omega
theorem cutS_take (z : Str) (n : Nat) : (cutS z none (some (n : Int))).cps.toList = z.cps.toList.take n := by
  show (((z.cps.toList.drop (HT.sIx z.length 0 none)).take (HT.sIx z.length z.length (some (n : Int)) - HT.sIx z.length 0 none)).toArray).toList = _
  rw [HT.sIx_none, HT.sIx_nat, List.drop_zero, Nat.sub_zero, ← len_toList]
  show List.take _ _ = _
  by_cases q : n ≤ z.cps.toList.length
  · rw [Nat.min_eq_left q]
  · rw [Nat.min_eq_right (by omega), List.take_length, List.take_of_length_le (by omega)]
/-- the first letters of a word, and one more -/
theorem cut_word {z : Str} (hz : IsWord z) (n : Nat) (hn : n = 6 ∨ n = 7) (j : Nat) (hj : j < 13) : IsWord (cutS z none (some (n : Int)) ++ chr1 (97 + j)) ∧ lastC (cutS z none (some (n : Int)) ++ chr1 (97 + j)) = some (97 + j) := by
  have e : (cutS z none (some (n : Int)) ++ chr1 (97 + j)).cps.toList = z.cps.toList.take n ++ [97 + j] := by
    show ((cutS z none (some (n : Int))).cps ++ (chr1 (97 + j)).cps).toList = _
    rw [Array.toList_append]
    rw [cutS_take]; rfl
  have lo := hz.lo
  have hi := hz.hi
  refine ⟨⟨?_, ?_, fun c hc => ?_⟩, ?_⟩
  · rw [e, List.length_append]; show 1 ≤ _ + 1; omega
  · rw [e, List.length_append, List.length_take]; show _ + 1 ≤ 8; omega
  · rw [e] at hc
    rcases List.mem_append.mp hc with q | q
    · exact hz.al c (List.mem_of_mem_take q)
    · have := List.mem_singleton.mp q
      omega
  · unfold lastC
    rw [e, List.getLast?_append]; rfl
theorem uncons {α : Type} {l : List α} {n : Nat} (h : l.length = n + 1) : ∃ x r, l = x :: r ∧ r.length = n := by
  cases l with
  | nil => cases h
  | cons x r => exact ⟨x, r, rfl, Nat.succ.inj h⟩
theorem eight_of {α : Type} {l : List α} (h : l.length = 8) : ∃ x0 x1 x2 x3 x4 x5 x6 x7, l = [x0, x1, x2, x3, x4, x5, x6, x7] := by
  obtain ⟨x0, l0, rfl, h0⟩ := uncons h
  obtain ⟨x1, l1, rfl, h1⟩ := uncons h0
  obtain ⟨x2, l2, rfl, h2⟩ := uncons h1
  obtain ⟨x3, l3, rfl, h3⟩ := uncons h2
  obtain ⟨x4, l4, rfl, h4⟩ := uncons h3
  obtain ⟨x5, l5, rfl, h5⟩ := uncons h4
  obtain ⟨x6, l6, rfl, h6⟩ := uncons h5
  obtain ⟨x7, l7, rfl, h7⟩ := uncons h6
  cases List.length_eq_zero_iff.mp h7
  exact ⟨_, _, _, _, _, _, _, _, rfl⟩
theorem thirteen_of {α : Type} {l : List α} (h : l.length = 13) : ∃ x0 x1 x2 x3 x4 x5 x6 r, l = x0 :: x1 :: x2 :: x3 :: x4 :: x5 :: x6 :: r ∧ r.length = 6 := by
  obtain ⟨x0, l0, rfl, h0⟩ := uncons h
  obtain ⟨x1, l1, rfl, h1⟩ := uncons h0
  obtain ⟨x2, l2, rfl, h2⟩ := uncons h1
  obtain ⟨x3, l3, rfl, h3⟩ := uncons h2
  obtain ⟨x4, l4, rfl, h4⟩ := uncons h3
  obtain ⟨x5, l5, rfl, h5⟩ := uncons h4
  obtain ⟨x6, l6, rfl, h6⟩ := uncons h5
  exact ⟨_, _, _, _, _, _, _, _, rfl, h6⟩
theorem word_thing {H : Hp} {w : Str} (h : IsWord w) : Thing H (.str w) := .str w (by rw [← len_toList]; have := h.hi; omega) fun c hc => by have := h.al c hc; omega
/-- the words, the odd thing among them -/
theorem given_ok {W : List Str} {odd : V} {k : Nat} {H : Hp} (h : W13 W) (hk : k < 8) (to : Thing H odd) (no : wordB odd = false) : ((W.take k).map V.str ++ [odd] ++ ((W.take 7).drop k).map V.str).length = 8 ∧ badV ((W.take k).map V.str ++ [odd] ++ ((W.take 7).drop k).map V.str) = some odd ∧ ∀ x ∈ (W.take k).map V.str ++ [odd] ++ ((W.take 7).drop k).map V.str, Thing H x := by
  have hl := h.len
  have lk : ((W.take k).map V.str).length = k := by rw [List.length_map, List.length_take]; omega
  refine ⟨?_, badV_at (i := k) ?_ ?_ no, fun x hx => ?_⟩
  · rw [List.length_append, List.length_append, lk, List.length_map, List.length_drop, List.length_take]
    show k + 1 + _ = 8
    omega
  · rw [List.append_assoc, List.getElem?_append_right (by omega), lk, Nat.sub_self]; rfl
  · intro x hx
    rw [List.append_assoc, List.take_append_of_le_length (by omega), List.take_of_length_le (by omega)] at hx
    obtain ⟨z, hz, rfl⟩ := List.mem_map.mp hx
    exact (h.iw z (List.mem_of_mem_take hz)).ok
  · rcases List.mem_append.mp hx with hx | hx
    · rcases List.mem_append.mp hx with hx | hx
      · obtain ⟨z, hz, rfl⟩ := List.mem_map.mp hx
        exact word_thing (h.iw z (List.mem_of_mem_take hz))
      · exact List.mem_singleton.mp hx ▸ to
    · obtain ⟨z, hz, rfl⟩ := List.mem_map.mp hx
      exact word_thing (h.iw z (List.mem_of_mem_take (List.mem_of_mem_drop hz)))
theorem str_inj {xs ys : List Str} (h : xs.map V.str = ys.map V.str) : xs = ys := by
  have e : ∀ l : List Str, (l.map V.str).filterMap (fun v => match v with | .str z => some z | _ => none) = l := fun l => by
    induction l with
    | nil => rfl
    | cons x r ih => rw [List.map_cons]; show x :: _ = _; rw [ih]
  rw [← e xs, h, e ys]
/-- seven different words -/
theorem seven_many {w0 w1 w2 w3 w4 w5 w6 : Str} {r : List Str} (h : W13 (w0 :: w1 :: w2 :: w3 :: w4 :: w5 :: w6 :: r)) : 6 < (setT [w6, w1, w2, w3, w4, w5, w0, w1]).length := by
  have nd : [w0, w1, w2, w3, w4, w5, w6].Nodup := List.Nodup.sublist (List.take_sublist 7 (w0 :: w1 :: w2 :: w3 :: w4 :: w5 :: w6 :: r)) h.nd
  have p : (setT [w6, w1, w2, w3, w4, w5, w0, w1]).Perm [w0, w1, w2, w3, w4, w5, w6] := nd_perm setT_nd nd fun k => by
    rw [setT_mem]
    simp only [List.mem_cons, List.not_mem_nil, or_false]
    grind
  rw [p.length_eq]; show 6 < 7; omega
/-- six different words -/
theorem six_few {w0 w1 w2 w3 w4 w5 w6 : Str} {r : List Str} (h : W13 (w0 :: w1 :: w2 :: w3 :: w4 :: w5 :: w6 :: r)) : sortT (setT [w1, w0, w2, w3, w1, w2, w5, w4]) = [w0, w1, w2, w3, w4, w5] := by
  have nd : [w0, w1, w2, w3, w4, w5].Nodup := List.Nodup.sublist (List.take_sublist 6 (w0 :: w1 :: w2 :: w3 :: w4 :: w5 :: w6 :: r)) h.nd
  have pw : [w0, w1, w2, w3, w4, w5].Pairwise leT := List.Pairwise.sublist (List.take_sublist 6 (w0 :: w1 :: w2 :: w3 :: w4 :: w5 :: w6 :: r)) h.pw
  refine srt_of pw nd fun k => ?_
  simp only [List.mem_cons, List.not_mem_nil, or_false]
  grind
/-- a run of the words is sorted -/
theorem run_srt {W : List Str} (h : W13 W) (s n : Nat) : sortT (setT ((W.take n).drop s)) = (W.take n).drop s :=
  srt_of (List.Pairwise.sublist ((List.drop_sublist _ _).trans (List.take_sublist _ _)) h.pw) (List.Nodup.sublist ((List.drop_sublist _ _).trans (List.take_sublist _ _)) h.nd) fun _ => Iff.rfl
theorem word_asc {z : Str} (h : IsWord z) : asc z := fun c hc => by have := h.al c hc; omega
theorem lit_asc {z : Str} (h : (z.cps.toList.all fun c => decide (c < 128)) = true) : asc z := fun c hc => of_decide_eq_true (List.all_eq_true.mp h c hc)
theorem conjG_asc : ∀ (r : List Str) (f : Fm), asc f.txt → (∀ y ∈ r, IsWord y) → asc (conjG f r).txt
  | [], f, h, _ => h
  | y :: r, f, h, hr => by
    refine conjG_asc r (.bin "and" f (.has y)) ?_ fun z hz => hr z (List.mem_cons_of_mem _ hz)
    show asc ("(" ++ f.txt ++ " " ++ "and" ++ " " ++ y ++ ")")
    have sp : asc (" " : Str) := lit_asc (by decide +kernel)
    exact app_asc (app_asc (app_asc (app_asc (app_asc (app_asc (lit_asc (by decide +kernel)) h) sp) (lit_asc (by decide +kernel))) sp) (word_asc (hr y List.mem_cons_self))) (lit_asc (by decide +kernel))
theorem run_ex {W : List Str} (h : W13 W) (s n : Nat) (hs : s < n) (hn : n ≤ 13) (hl : n ≤ s + 6) : ∃ z r, (W.take n).drop s = z :: r ∧ r.length ≤ 5 ∧ (∀ y ∈ z :: r, IsWord y) ∧ (conjF z r).recs = (W.take n).drop s ∧ (conjF z r).dep ≤ 5 ∧ asc (conjF z r).txt := by
  have L : ((W.take n).drop s).length = (n - s - 1) + 1 := by rw [List.length_drop, List.length_take, h.len]; omega
  obtain ⟨z, r, e, lr⟩ := uncons L
  have iw : ∀ y ∈ z :: r, IsWord y := fun y hy => h.iw y (List.mem_of_mem_take (List.mem_of_mem_drop (e ▸ hy)))
  refine ⟨z, r, e, by omega, iw, ?_, Nat.le_trans (conjF_dep z r) (by omega), conjG_asc r _ (word_asc (iw z List.mem_cons_self)) fun y hy => iw y (List.mem_cons_of_mem _ hy)⟩
  rw [conjF_recs, ← e]
  exact run_srt h s n
/-! ### k18: the law -/
def spLaw (P0 : Addr) (K : PySem.W.Frag) : Sp := fun vs H Q _ => ∃ (p : Addr) (ns : List Int), vs = [.ref p] ∧ SqL K H p (ns.map V.int) ∧ ns.length ≤ 63 ∧ H P0 = some (.tbl #[]) ∧ ∀ H', Q (.bl true) H'
abbrev lawT (P0 : Addr) : List NdefX.NTab := [(P0, fun _ _ => ("law.<locals>.<lambda>" : Str))]
theorem lawT_one {P0 : Addr} : ∀ p ∈ lawT P0, p.1 = P0 → p.2 = fun _ _ => ("law.<locals>.<lambda>" : Str) := fun p hp _ => by
  rw [List.mem_singleton.mp hp]
/-- all but tables stay -/
structure Et (H H' : Hp) : Prop where
  ext : LamX.ExtN H H'
  fr : ∀ b, H' b = none → H b = none
theorem Et.of {H H' : Hp} (s : Same H H') : Et H H' := ⟨fun b o h _ => s b o h, fun b h => s.free h⟩
theorem Et.trans {H H1 H2 : Hp} (a : Et H H1) (b : Et H1 H2) : Et H H2 := ⟨a.ext.trans b.ext, fun c h => a.fr c (b.fr c h)⟩
theorem Et.draw {H H' : Hp} {p : Addr} {o : HO} (k : Kp (fun b => b = p) H H') (hp : H' p = some o) : ∀ b, H' b = none → H b = none := fun b h => by
  by_cases e : b = p
  · rw [e, hp] at h; cases h
  · cases q : H b with
    | none => rfl
    | some u => rw [k b u q e] at h; cases h
theorem Et.im {H H' : Hp} (e : Et H H') : Im H H' := ⟨fun p xs h => e.ext p _ h (fun ps z => by cases z), fun p C dx fs h => e.ext p _ h (fun ps z => by cases z)⟩
theorem Et.lst {H H' : Hp} (e : Et H H') {p : Addr} {xs : List V} (h : H p = some (.lst xs)) : H' p = some (.lst xs) := e.ext p _ h (fun ps z => by cases z)
theorem Et.tup {H H' : Hp} (e : Et H H') {p : Addr} {xs : List V} (h : H p = some (.tup xs)) : H' p = some (.tup xs) := e.ext p _ h (fun ps z => by cases z)
theorem Et.lam {H H' : Hp} (e : Et H H') {f g : Addr} {F : NdefX.NF} {b : Expr} (h : H f = some (LamO g F b)) : H' f = some (LamO g F b) := e.ext f _ h (fun ps z => by unfold LamO at z; cases z)
theorem Et.code {H H' : Hp} (e : Et H H') {f g : Addr} {q : Str} (h : H f = some (LamX.CodeO g q)) : H' f = some (LamX.CodeO g q) := e.ext f _ h LamX.codeO_ne
structure P18 (P0 : Addr) (H0 H : Hp) (p : Addr) (c : Nat) : Prop where
  et : Et H0 H
  pool : ∃ o, H p = some o ∧ PoolO o c
  fr : H0 p = none
  tb : NdefX.TabsN (lawT P0) H
theorem P18.keep {P0 : Addr} {H0 H H' : Hp} {p : Addr} {c : Nat} (h : P18 P0 H0 H p c) (s : Same H H') : P18 P0 H0 H' p c := by
  obtain ⟨o, h1, h2⟩ := h.pool
  exact ⟨h.et.trans (.of s), ⟨o, s _ _ h1, h2⟩, h.fr, h.tb.ext s⟩
theorem P18.lam {P0 : Addr} {H0 H H' : Hp} {p : Addr} {c : Nat} (h : P18 P0 H0 H p c) (e : LamX.ExtN H H') (f : ∀ b, H' b = none → H b = none) (t : NdefX.TabsN (lawT P0) H') : P18 P0 H0 H' p c := by
  obtain ⟨o, h1, h2⟩ := h.pool
  obtain ⟨x, y, z, rfl, _⟩ := id h2
  exact ⟨h.et.trans ⟨e, f⟩, ⟨_, e _ _ h1 (fun ps z => by cases z), h2⟩, h.fr, t⟩
theorem P18.draw {P0 : Addr} {H0 H H' : Hp} {p : Addr} {c c' : Nat} {o' : HO} (h : P18 P0 H0 H p c) (k : Kp (fun b => b = p) H H') (hp : H' p = some o') (ho : PoolO o' c') : P18 P0 H0 H' p c' := by
  obtain ⟨o, h1, h2⟩ := h.pool
  obtain ⟨x, y, z, rfl, _⟩ := id h2
  refine ⟨⟨fun b u e n => k b u (h.et.ext b u e n) fun q => ?_, fun b e => h.et.fr b (Et.draw k hp b e)⟩, ⟨o', hp, ho⟩, h.fr, fun q hq => ?_⟩
  · rw [q, h.fr] at e; cases e
  · obtain ⟨ps, t1, t2, t3⟩ := h.tb q hq
    refine ⟨ps, k _ _ t1 fun q => ?_, t2, fun pos cv hc => ?_⟩
    · rw [q, h1] at t1; cases t1
    · obtain ⟨c0, e1, e2⟩ := t3 pos cv hc
      exact ⟨c0, e1, k _ _ e2 fun q => by
        rw [q, h1] at e2
        unfold LamX.CodeO at e2
        cases e2⟩
theorem P18.im {P0 : Addr} {H0 H H' : Hp} {p : Addr} {c : Nat} (h : P18 P0 H0 H p c) (k : Kp (fun b => b = p) H H') : Im H H' := by
  obtain ⟨o, h1, h2⟩ := h.pool
  obtain ⟨x, y, z, rfl, _⟩ := id h2
  exact ⟨fun q xs e => k _ _ e fun z => (by rw [z, h1] at e; cases e), fun q C dx fs e => k _ _ e fun z => (by rw [z, h1] at e; cases e)⟩
theorem P18.up {P0 : Addr} {H0 H : Hp} {p : Addr} {c c' : Nat} (h : P18 P0 H0 H p c) (l : c ≤ c') : P18 P0 H0 H p c' := by
  obtain ⟨o, h1, h2⟩ := h.pool
  exact ⟨h.et, ⟨o, h1, h2.mono l⟩, h.fr, h.tb⟩
theorem Et.sq {H0 H : Hp} {K : PySem.W.Frag} {s : Addr} {xs : List V} (h : Et H0 H) (e : SqL K H0 s xs) : SqL K H s xs := by
  rcases e with (e | ⟨o, e⟩) | e
  · exact .inl (.inl (h.lst e))
  · exact .inl (.inr ⟨o, h.ext _ _ e (fun ps z => by cases z)⟩)
  · exact .inr e
theorem P18.acc {P0 : Addr} {H0 H : Hp} {p q : Addr} {c : Nat} {xs ys : List V} (h : P18 P0 H0 H p c) (fq : H0 q = none) (hq : H q = some (.lst xs)) (nq : q ≠ p) : P18 P0 H0 (upd H q (.lst ys)) p c := by
  obtain ⟨o, h1, h2⟩ := h.pool
  refine ⟨⟨fun b u e n => upd_oth (fun z => ?_) (h.et.ext b u e n), fun b e => h.et.fr b (Et.draw (p := q) (Kp.refl.set rfl) upd_same b e)⟩, ⟨o, upd_oth (Ne.symm nq) h1, h2⟩, h.fr, fun r hr => ?_⟩
  · rw [z, fq] at e; cases e
  · obtain ⟨ps, t1, t2, t3⟩ := h.tb r hr
    refine ⟨ps, upd_oth (fun z => ?_) t1, t2, fun pos cv hc => ?_⟩
    · rw [z, hq] at t1; cases t1
    · obtain ⟨c0, e1, e2⟩ := t3 pos cv hc
      exact ⟨c0, e1, upd_oth (fun z => by
        rw [z, hq] at e2
        unfold LamX.CodeO at e2
        cases e2) e2⟩
mutual
theorem dp_et {K : PySem.W.Frag} {H H' : Hp} (e : Et H H') : ∀ {d : PyData} {v : V}, Dp K H v d → Dp K H' v d
  | _, _, .non => .non
  | _, _, .bl b => .bl b
  | _, _, .int i => .int i
  | _, _, .str x => .str x
  | _, _, .lst h r => .lst (e.sq h) (dpa_et e r)
  | _, _, .tup h r => .tup (by
    rcases h with (h | ⟨o, h⟩) | h
    · exact .inl (.inl (e.tup h))
    · exact .inl (.inr ⟨o, e.ext _ _ h (fun ps z => by cases z)⟩)
    · exact .inr h) (dpa_et e r)
theorem dpa_et {K : PySem.W.Frag} {H H' : Hp} (e : Et H H') : ∀ {ds : List PyData} {vs : List V}, DpAll K H vs ds → DpAll K H' vs ds
  | _, _, .nil => .nil
  | _, _, .cons h r => .cons (dp_et e h) (dpa_et e r)
end
theorem OddV.et {K : PySem.W.Frag} {H H' : Hp} {v : V} (h : OddV K H v) (s : Et H H') : OddV K H' v := by
  obtain ⟨dt, h1, h2⟩ := h.dt
  refine ⟨?_, h.nw, dt, dp_et s h1, h2⟩
  cases h.th with
  | str z a b => exact .str z a b
  | int i => exact .int i
  | bl b => exact .bl b
  | non => exact .non
  | lst z => exact .lst (s.lst z)
  | tup z => exact .tup (s.tup z)
theorem cut_to {xs : List V} {k : Nat} : cutV xs none (some (k : Int)) = xs.take k := by
  unfold cutV
  rw [HT.sIx_none, HT.sIx_nat, List.drop_zero, Nat.sub_zero]
  rcases Nat.le_total k xs.length with h | h
  · rw [Nat.min_eq_left h]
  · rw [Nat.min_eq_right h, List.take_length, List.take_of_length_le h]
theorem cut_ft (xs : List V) (s m : Nat) : cutV xs (some (s : Int)) (some (m : Int)) = (xs.take m).drop s := by
  unfold cutV
  rw [HT.sIx_nat, HT.sIx_nat, List.drop_take]
  rcases Nat.le_total m xs.length with h | h
  · rw [Nat.min_eq_left h]
    rcases Nat.le_total s xs.length with g | g
    · rw [Nat.min_eq_left g]
    · rw [Nat.min_eq_right g, List.drop_of_length_le (Nat.le_refl _), List.drop_of_length_le g]; simp
  · rw [Nat.min_eq_right h]
    rcases Nat.le_total s xs.length with g | g
    · rw [Nat.min_eq_left g, List.take_of_length_le (by rw [List.length_drop]; omega), List.take_of_length_le (by rw [List.length_drop]; omega)]
    · rw [Nat.min_eq_right g, List.drop_of_length_le (Nat.le_refl _), List.drop_of_length_le g]; simp
/-- a lambda is handed to _law_made -/
theorem made_lam {P : Program} {w : World} {K : PySem.W.Frag} {mg : Str → Option Value} {base : Heap} {a : Ad} {F : NdefX.NF} {body : Expr} {f : Addr} {h : Heap} {H : Hp} {outer : List Env} {oc : Oc} {Q : VK} {E : XK} {N : List Str} {ws : List (Option V)} {Φ : Hp → Prop} (hf : H f = some (LamO f F body)) (hc : H F.c = some (LamX.CodeO F.c F.qual)) (S : NdefX.NScope N [] N F.scope) (C : VC F.cl N ws h H outer)
    (hb : ∀ pm ctv : Value, bindArgs (PySem.W.kla_fn F.name F.qual F.params body F.scope F.cl pm (.ref F.c) ctv) ⟨[], []⟩ = pure [])
    (hbody : ∀ (A : Around) (outer : List Env) (s : Shared) (H : Hp) (Q : VK) (E : XK), Room 10 (A.deeper (NdefX.envF F f s.heap.objs.size)) → Φ H → ocQ a H Q E oc → ∃ t, PE (NdefX.ncx (L2.CX P w) P w K mg base N F f A outer s H E) body t ∧ t (NdefX.startF N [] ws) H Q)
    (hΦ : Φ H) (hd : ∀ f, oc = .rule f → f.dep < 8) (k : ∀ H' q x, Same H H' → H q = none → H' q = some (.tup [.str oc.tag, x]) → PayO H' x oc → Q (.ref q) H') : spMade P w K mg base a h outer [.ref f] H Q E :=
  ⟨f, _, oc, rfl, IsFO.lam hf, FV.lam (k := 10) (sp := fun vs H Q E => vs = [] ∧ H f = some (LamO f F body) ∧ H F.c = some (LamX.CodeO F.c F.qual) ∧ Φ H ∧ ocQ a H Q E oc) S C hb fun A outer s H vs Q E hr q => ⟨q.1, q.2.1, q.2.2.1, hbody A outer s H Q E hr q.2.2.2.1 q.2.2.2.2⟩, fun Q' E' q => ⟨rfl, hf, hc, hΦ, q⟩, hd, k⟩
theorem ne_bad {K : PySem.W.Frag} {H : Hp} {q r : Addr} {odd : V} {Q : VK} (od : OddV K H odd) (h1 : H q = some (.tup [.str (Oc.bad odd).tag, odd])) (h2 : H r = some (.tup [.str "badword", odd])) (k : Q (.bl false) H) : rNeD K (.ref q) (.ref r) H Q := by
  obtain ⟨dt, d1, d2⟩ := od.dt
  refine ⟨_, _, .tup (SqT.of h1) (.cons (.str _) (.cons d1 .nil)), .tup (SqT.of h2) (.cons (.str _) (.cons d1 .nil)), d2, d2, ?_⟩
  have e : PyData.eqv (.tuple [.str "badword", dt]) (.tuple [.str "badword", dt]) = true := SeqAt.eqv_refl _ (SeqAt.canLay_of_shaped d2)
  show Q (.bl (!PyData.eqv (.tuple [.str "badword", dt]) (.tuple [.str "badword", dt]))) H
  rw [e]; exact k
def ToldO (H : Hp) (v : V) : Oc → Prop := fun oc => ∃ q x, v = .ref q ∧ H q = some (.tup [.str oc.tag, x]) ∧ PayO H x oc
theorem ToldO.et {H H' : Hp} {v : V} {oc : Oc} (h : ToldO H v oc) (e : Et H H') : ToldO H' v oc := by
  obtain ⟨q, x, h1, h2, h3⟩ := h
  refine ⟨q, x, h1, e.tup h2, ?_⟩
  cases oc with
  | bad v => exact h3
  | many => exact h3
  | rule f => obtain ⟨l, h4, h5⟩ := h3; exact ⟨l, h4, e.lst h5⟩
theorem ne_many {K : PySem.W.Frag} {H : Hp} {v u : V} {Q : VK} (h1 : ToldO H v .many) (h2 : ToldO H u .many) (k : Q (.bl false) H) : rNeD K v u H Q := by
  obtain ⟨q, x, rfl, h1, rfl⟩ := h1
  obtain ⟨r, y, rfl, h2, rfl⟩ := h2
  refine ⟨_, _, .tup (SqT.of h1) (.cons (.str _) (.cons (.str _) .nil)), .tup (SqT.of h2) (.cons (.str _) (.cons (.str _) .nil)), (by decide +kernel), (by decide +kernel), ?_⟩
  have e : PyData.eqv (.tuple [.str "toomany", .str "records"]) (.tuple [.str "toomany", .str "records"]) = true := by decide +kernel
  show Q (.bl (!PyData.eqv (.tuple [.str "toomany", .str "records"]) (.tuple [.str "toomany", .str "records"]))) H
  rw [e]; exact k
theorem ne_rule {K : PySem.W.Frag} {H : Hp} {v u : V} {f g : Fm} {Q : VK} (h1 : ToldO H v (.rule f)) (h2 : ToldO H u (.rule g)) (e : g.recs = f.recs) (iw : ∀ z ∈ f.recs, IsWord z) (k : Q (.bl false) H) : rNeD K v u H Q := by
  obtain ⟨q, x, rfl, h1, l, rfl, h3⟩ := h1
  obtain ⟨r, y, rfl, h2, m, rfl, h4⟩ := h2
  rw [e] at h4
  have sl : SeqAt.shaped (.list (f.recs.map PyData.str)) = true := shaped_strs fun z hz c hc => by have := (iw z hz).al c hc; omega
  have sh : SeqAt.shaped (.tuple [.str "rule", .list (f.recs.map PyData.str)]) = true := by
    have c := SeqAt.canLay_of_shaped sl
    have e : PyData.depthAll [PyData.str "rule", .list (f.recs.map PyData.str)] = max (PyData.str "rule").depth (max (PyData.depthAll (f.recs.map PyData.str) + 1) 0) := rfl
    show ((PyData.strOk "rule" && ((PyData.list (f.recs.map PyData.str)).canLay0 && true)) && decide (PyData.depthAll [PyData.str "rule", .list (f.recs.map PyData.str)] + 1 ≤ 64)) = true
    rw [e, c, show PyData.strOk "rule" = true by decide +kernel, depth_strs]; rfl
  refine ⟨_, _, .tup (SqT.of h1) (.cons (.str _) (.cons (.lst (SqL.of h3) (dp_strs f.recs)) .nil)), .tup (SqT.of h2) (.cons (.str _) (.cons (.lst (SqL.of h4) (dp_strs f.recs)) .nil)), sh, sh, ?_⟩
  have e : PyData.eqv (.tuple [.str "rule", .list (f.recs.map PyData.str)]) (.tuple [.str "rule", .list (f.recs.map PyData.str)]) = true := SeqAt.eqv_refl _ (SeqAt.canLay_of_shaped sh)
  show Q (.bl (!PyData.eqv (.tuple [.str "rule", .list (f.recs.map PyData.str)]) (.tuple [.str "rule", .list (f.recs.map PyData.str)]))) H
  rw [e]; exact k
/-- the pool, the words -/
structure SW (P0 : Addr) (H0 : Hp) (p q8 : Addr) (W : List Str) (c : Nat) (H : Hp) : Prop where
  I : P18 P0 H0 H p c
  hw : H q8 = some (.lst (W.map V.str))
  n8 : q8 ≠ p
theorem SW.keep {P0 : Addr} {H0 H H' : Hp} {p q8 : Addr} {W : List Str} {c : Nat} (S : SW P0 H0 p q8 W c H) (s : Same H H') : SW P0 H0 p q8 W c H' := ⟨S.I.keep s, s _ _ S.hw, S.n8⟩
theorem SW.lam {P0 : Addr} {H0 H H' : Hp} {p q8 : Addr} {W : List Str} {c : Nat} (S : SW P0 H0 p q8 W c H) (e : LamX.ExtN H H') (f : ∀ b, H' b = none → H b = none) (t : NdefX.TabsN (lawT P0) H') : SW P0 H0 p q8 W c H' := ⟨S.I.lam e f t, Et.lst ⟨e, f⟩ S.hw, S.n8⟩
theorem SW.draw {P0 : Addr} {H0 H H' : Hp} {p q8 : Addr} {W : List Str} {c c' : Nat} {o' : HO} (S : SW P0 H0 p q8 W c H) (k : Kp (fun b => b = p) H H') (hp : H' p = some o') (ho : PoolO o' c') : SW P0 H0 p q8 W c' H' := ⟨S.I.draw k hp ho, k _ _ S.hw S.n8, S.n8⟩
/-- what two rules, put together, come to -/
def ocB (w : Str) (f g : Fm) : Oc := if 6 < (setT (f.recs ++ g.recs)).length then .many else .rule (.bin w f g)
theorem ocB_q {a : Ad} {H : Hp} {Q : VK} {E : XK} {w : Str} {f g : Fm} (q : ocQ a H Q E (ocB w f g)) : if 6 < (setT (f.recs ++ g.recs)).length then (∀ H', Same H H' → errQ a.TooMany ef_TooMany [.str "records"] H' E) else outR a (.bin w f g) H Q := by
  unfold ocB at q
  split
  · rename_i h; rw [if_pos h] at q; exact q
  · rename_i h; rw [if_neg h] at q; exact q
theorem ocB_dep {w : Str} {f g : Fm} (h1 : f.dep ≤ 5) (h2 : g.dep ≤ 5) : ∀ h, ocB w f g = .rule h → h.dep < 8 := by
  intro h e
  unfold ocB at e
  split at e
  · cases e
  · cases e
    show max f.dep g.dep + 1 < 8
    omega
theorem ne_due {K : PySem.W.Frag} {H : Hp} {v u : V} {w1 w2 : Str} {f g : Fm} {Q : VK} (h1 : ToldO H v (ocB w1 f g)) (h2 : ToldO H u (ocB w2 f g)) (i1 : ∀ z ∈ f.recs, IsWord z) (i2 : ∀ z ∈ g.recs, IsWord z) (k : Q (.bl false) H) : rNeD K v u H Q := by
  unfold ocB at h1 h2
  split at h1
  · rename_i h
    rw [if_pos h] at h2
    exact ne_many h1 h2 k
  · rename_i h
    rw [if_neg h] at h2
    refine ne_rule h1 h2 rfl (fun z hz => ?_) k
    have hz : z ∈ sortT (setT (f.recs ++ g.recs)) := hz
    rw [sortT_mem, setT_mem] at hz
    exact (List.mem_append.mp hz).elim (i1 z) (i2 z)
theorem due_if {σ : L2.St} {H : Hp} {K : VK} {b : Bool} {l : Addr} {f g : Fm} (hσ : σ[13]? = some (some (.ref l))) (hl : H l = some (.lst ((sortT (setT (f.recs ++ g.recs))).map V.str))) (hb : b = decide ((setT (f.recs ++ g.recs)).length < 7)) (k : ∀ q H', Same H H' → ToldO H' (.ref q) (ocB "and" f g) → K (.ref q) H') :
    if b = true then tTup (tCons (tC (.str "rule")) (tCons (tVar 13) tNil)) σ H K else tTup (tCons (tC (.str "toomany")) (tCons (tC (.str "records")) tNil)) σ H K := by
  subst hb
  by_cases h : (setT (f.recs ++ g.recs)).length < 7
  · rw [if_pos (decide_eq_true h)]
    refine ⟨.ref l, hσ, by rw [sizeLine_eq]; show 2 ≤ _; omega, fun q hq => k q _ ((Same.refl H).new hq) ?_⟩
    unfold ocB
    rw [if_neg (by omega)]
    exact ⟨q, _, rfl, upd_same, l, rfl, upd_old hl hq⟩
  · rw [if_neg (by rw [decide_eq_false h]; simp)]
    refine ⟨by rw [sizeLine_eq]; decide, fun q hq => k q _ ((Same.refl H).new hq) ?_⟩
    unfold ocB
    rw [if_pos (by omega)]
    exact ⟨q, _, rfl, upd_same, rfl⟩
theorem Et.acc {H0 H : Hp} {q : Addr} {xs ys : List V} (h : Et H0 H) (fq : H0 q = none) (hq : H q = some (.lst xs)) : Et H0 (upd H q (.lst ys)) :=
  ⟨fun b u e n => upd_oth (fun z => by rw [z, fq] at e; cases e) (h.ext b u e n), fun b e => h.fr b (Et.draw (p := q) (Kp.refl.set rfl) upd_same b e)⟩
theorem SW.acc {P0 : Addr} {H0 H : Hp} {p q8 q : Addr} {W : List Str} {c : Nat} {xs ys : List V} (S : SW P0 H0 p q8 W c H) (fq : H0 q = none) (hq : H q = some (.lst xs)) (nq : q ≠ p) (n8 : q8 ≠ q) : SW P0 H0 p q8 W c (upd H q (.lst ys)) :=
  ⟨S.I.acc fq hq nq, upd_oth n8 S.hw, S.n8⟩
theorem lam_acc {H : Hp} {f g q : Addr} {F : NdefX.NF} {b : Expr} {xs ys : List V} (hq : H q = some (.lst xs)) (h : H f = some (LamO g F b)) : (upd H q (.lst ys)) f = some (LamO g F b) := upd_oth (fun z => by
  rw [z, hq] at h
  unfold LamO at h
  cases h) h
theorem code_acc {H : Hp} {f g q : Addr} {s : Str} {xs ys : List V} (hq : H q = some (.lst xs)) (h : H f = some (LamX.CodeO g s)) : (upd H q (.lst ys)) f = some (LamX.CodeO g s) := upd_oth (fun z => by
  rw [z, hq] at h
  unfold LamX.CodeO at h
  cases h) h
/-- what the rules told before and after -/
theorem ne_before {K : PySem.W.Frag} {H : Hp} {q r q1 q2 r1 r2 : Addr} {l1 l2 : List Str} {t1 t2 : Str} {Q : VK} (hq : H q = some (.lst [.ref q1, .ref q2, .str t1, .str t2])) (h1 : H q1 = some (.lst (l1.map V.str))) (h2 : H q2 = some (.lst (l2.map V.str))) (hr : H r = some (.lst [.ref r1, .ref r2, .str t1, .str t2])) (g1 : H r1 = some (.lst (l1.map V.str))) (g2 : H r2 = some (.lst (l2.map V.str)))
    (i1 : ∀ z ∈ l1, IsWord z) (i2 : ∀ z ∈ l2, IsWord z) (a1 : asc t1) (a2 : asc t2) (k : Q (.bl false) H) : rNeD K (.ref q) (.ref r) H Q := by
  have c1 : (PyData.list (l1.map PyData.str)).canLay0 = true := SeqAt.canLay_of_shaped (shaped_strs fun z hz => word_asc (i1 z hz))
  have c2 : (PyData.list (l2.map PyData.str)).canLay0 = true := SeqAt.canLay_of_shaped (shaped_strs fun z hz => word_asc (i2 z hz))
  have e : PyData.depthAll [.list (l1.map PyData.str), .list (l2.map PyData.str), .str t1, .str t2] = max (PyData.depthAll (l1.map PyData.str) + 1) (max (PyData.depthAll (l2.map PyData.str) + 1) (max (PyData.str t1).depth (max (PyData.str t2).depth 0))) := rfl
  have sh : SeqAt.shaped (.list [.list (l1.map PyData.str), .list (l2.map PyData.str), .str t1, .str t2]) = true := by
    show (((PyData.list (l1.map PyData.str)).canLay0 && ((PyData.list (l2.map PyData.str)).canLay0 && (PyData.strOk t1 && (PyData.strOk t2 && true)))) && decide (PyData.depthAll [.list (l1.map PyData.str), .list (l2.map PyData.str), .str t1, .str t2] + 1 ≤ 64)) = true
    rw [e, c1, c2, asc_ok a1, asc_ok a2, depth_strs, depth_strs]; rfl
  refine ⟨_, _, .lst (SqL.of hq) (.cons (.lst (SqL.of h1) (dp_strs l1)) (.cons (.lst (SqL.of h2) (dp_strs l2)) (.cons (.str _) (.cons (.str _) .nil)))), .lst (SqL.of hr) (.cons (.lst (SqL.of g1) (dp_strs l1)) (.cons (.lst (SqL.of g2) (dp_strs l2)) (.cons (.str _) (.cons (.str _) .nil)))), sh, sh, ?_⟩
  rw [SeqAt.eqv_refl _ (SeqAt.canLay_of_shaped sh)]; exact k
theorem ne_strs {K : PySem.W.Frag} {H : Hp} {q r : Addr} {l : List Str} {Q : VK} (hq : H q = some (.lst (l.map V.str))) (hr : H r = some (.lst (l.map V.str))) (i1 : ∀ z ∈ l, IsWord z) (k : Q (.bl false) H) : rNeD K (.ref q) (.ref r) H Q := by
  have sh : SeqAt.shaped (.list (l.map PyData.str)) = true := shaped_strs fun z hz => word_asc (i1 z hz)
  refine ⟨_, _, .lst (SqL.of hq) (dp_strs l), .lst (SqL.of hr) (dp_strs l), sh, sh, ?_⟩
  rw [SeqAt.eqv_refl _ (SeqAt.canLay_of_shaped sh)]; exact k
/-- the pool, the words, the odd thing -/
structure S18 (P0 : Addr) (K : PySem.W.Frag) (H0 : Hp) (p q8 : Addr) (W : List Str) (odd : V) (H : Hp) : Prop where
  I : P18 P0 H0 H p 150
  hw : H q8 = some (.lst (W.map V.str))
  od : OddV K H odd
theorem S18.keep {P0 : Addr} {K : PySem.W.Frag} {H0 H H' : Hp} {p q8 : Addr} {W : List Str} {odd : V} (S : S18 P0 K H0 p q8 W odd H) (s : Same H H') : S18 P0 K H0 p q8 W odd H' := ⟨S.I.keep s, s _ _ S.hw, S.od.et (.of s)⟩
theorem S18.lam {P0 : Addr} {K : PySem.W.Frag} {H0 H H' : Hp} {p q8 : Addr} {W : List Str} {odd : V} (S : S18 P0 K H0 p q8 W odd H) (e : LamX.ExtN H H') (f : ∀ b, H' b = none → H b = none) (t : NdefX.TabsN (lawT P0) H') : S18 P0 K H0 p q8 W odd H' :=
  ⟨S.I.lam e f t, Et.lst ⟨e, f⟩ S.hw, S.od.et ⟨e, f⟩⟩
theorem let_at (j : Nat) (h : j < 13) : atI (Str.ofString "abcdefghijklm").cps.toList (0 + (j : Int)) = some (97 + j) := by
  rw [Int.zero_add]
  have k : (List.range 13).all (fun n => decide ((Str.ofString "abcdefghijklm").cps.toList[n]? = some (97 + n))) = true := by decide +kernel
  exact atI_nat (of_decide_eq_true (List.all_eq_true.mp k j (List.mem_range.mpr h)))
theorem ok_law {P0 : Addr} (T : Txt K mg a d) (TB : LamX.TabB base mg 270 P0) : FnOk P w K mg base CX0 19 a.law d.law ["_law_script"] (spLaw P0 K) := by
  have G_law_pool : FnOk P w K mg base CX0 1 a.law_pool d.law_pool ["_law_script", "_law_at"] (spPool K) := ok_law_pool T
  have G_law_draw : FnOk P w K mg base CX0 1 a.law_draw d.law_draw ["_law_pool_here", "_law_many"] spDraw := ok_law_draw T
  have G_law_word : FnOk P w K mg base CX0 2 a.law_word d.law_word ["_law_pool_here"] spWord := ok_law_word T
  have G_law_odd : FnOk P w K mg base CX0 3 a.law_odd d.law_odd ["_law_pool_here"] (spOdd K) := ok_law_odd T
  have G_law_made := ok_law_made (w := w) (base := base) T
  have G_law_eight := ok_law_eight (w := w) (base := base) T
  have G_law_conjunction := ok_law_conjunction (w := w) (base := base) T
  have G_Rule_records := ok_Rule_records (w := w) (base := base) T 8
  have G_Rule_has := ok_Rule_has (w := w) (base := base) T
  have G_RuleU_andU := ok_RuleU_andU (w := w) (base := base) T 7
  have G_RuleU_orU := ok_RuleU_orU (w := w) (base := base) T 7
  have G_RuleU_rshiftU := ok_RuleU_rshiftU (w := w) (base := base) T 7
  have G_RuleU_invertU := ok_RuleU_invertU (w := w) (base := base) T
  have G_RuleU_strU := ok_RuleU_strU (w := w) (base := base) T 8
  refine T.C_law.okT sc_law (fun vs H Q E h => ?_) (fun A outer s H vs Q E hr h => ?_)
  · obtain ⟨p, ns, rfl, _⟩ := h
    rfl
  · obtain ⟨sa, ns, rfl, hS, hl, hP, k⟩ := h
    refine ⟨_, (pss_cons (ps_for PassesOwn.never rfl (pi_range1 (by rfl) T.n_range (pa_cons (pe_callB (call_max2 rfl) (by rfl) T.n_max (by decide +kernel) (pa_cons pe_int (pa_cons (pe_callB (call_min2 rfl) (by rfl) T.n_min (by decide +kernel) (pa_cons pe_int (pa_cons (pe_callB call_len_seq (by rfl) T.n_len PySem.boot_len (pa_cons (pv 0) pa_nil)) pa_nil))) pa_nil))) pa_nil)) (pg_name (i := 1) sc_law.nd rfl (Or.inl rfl))
  (pss_cons (ps_set (i := 2) sc_law.nd rfl (Or.inr rfl) (pe_call G_law_pool (hr.mono (by decide)) (by rfl) T.g_law_pool T.law_pool.kp T.b_law_pool .nil pass0 (pa_cons (pv 0) (pa_cons (pv 1) pa_nil))))
  (pss_cons (ps_set (i := 3) sc_law.nd rfl (Or.inr rfl) (pe_lc (own := [("_law_k", 5)]) (tt := tYes) rfl sc_law.nd (pi_range1 (by rfl) T.n_range (pa_cons pe_int pa_nil)) (blkOk_by (own := [("_law_k", 5)]) (N := ["_law_script", "_law_at", "_law_pool_here", "_law_words", "_law_odd_here", "_law_k", "_law_given", "_law_told", "_law_many", "_law_start", "_law_one", "_law_size", "_law_other", "_law_both", "_law_due", "_law_before", "_law_makes", "_law_make"]) (sc := defScope s_law) (by decide +kernel)) (fun _ _ _ _ _ => (pg_name (i := 5) sc_law.nd rfl (Or.inl rfl))) (fun _ _ _ _ _ => pts_nil) (fun _ _ _ _ _ => (pe_op op_add_str (pe_slice sl_str (pe_call G_law_word (hr.mono (by decide)) (by rfl) T.g_law_word T.law_word.kp T.b_law_word .nil pass0 (pa_cons (pv 2) pa_nil)) po_none (po_some pe_int)) (pe_ix ix_str pe_str (pv 5) (fun _ _ => rfl))))))
  (pss_cons (ps_set (i := 3) sc_law.nd rfl (Or.inr rfl) (pe_callB (cr_sortTS rfl) (by rfl) T.n_sorted (by decide +kernel) (pa_cons (pe_callTy (cr_setTSL rfl) (by rfl) T.n_set (by decide +kernel) (pa_cons (pe_lc (own := [("_law_k", 5)]) (tt := tYes) rfl sc_law.nd (pi_range1 (by rfl) T.n_range (pa_cons pe_int pa_nil)) (blkOk_by (own := [("_law_k", 5)]) (N := ["_law_script", "_law_at", "_law_pool_here", "_law_words", "_law_odd_here", "_law_k", "_law_given", "_law_told", "_law_many", "_law_start", "_law_one", "_law_size", "_law_other", "_law_both", "_law_due", "_law_before", "_law_makes", "_law_make"]) (sc := defScope s_law) (by decide +kernel)) (fun _ _ _ _ _ => (pg_name (i := 5) sc_law.nd rfl (Or.inl rfl))) (fun _ _ _ _ _ => pts_nil) (fun _ _ _ _ _ => (pe_op op_add_str (pe_slice sl_str (pe_ix (ix_listK (K := K) rfl) (pv 3) (pv 5) (fun _ _ => rfl)) po_none (po_some pe_int)) (pe_ix ix_str pe_str (pv 5) (fun _ _ => rfl))))) pa_nil)) pa_nil)))
  (pss_cons (ps_asg (pe_tup (pa_cons (pe_call G_law_odd (hr.mono (by decide)) (by rfl) T.g_law_odd T.law_odd.kp T.b_law_odd .nil pass0 (pa_cons (pv 2) pa_nil)) (pa_cons (pe_call G_law_draw (hr.mono (by decide)) (by rfl) T.g_law_draw T.law_draw.kp T.b_law_draw .nil pass0 (pa_cons (pv 2) (pa_cons pe_int pa_nil))) pa_nil))) (pg_tup rfl (pgs_cons (pg_name (i := 4) sc_law.nd rfl (Or.inr rfl)) (pgs_cons (pg_name (i := 5) sc_law.nd rfl (Or.inl rfl)) pgs_nil))))
  (C8.pss_cut (ps_set (i := 6) sc_law.nd rfl (Or.inr rfl) (pe_op op_cat (pe_op op_cat (pe_slice sl_list (pv 3) po_none (po_some (pv 5))) (pe_lst (pa_cons (pv 4) pa_nil))) (pe_slice sl_list (pv 3) (po_some (pv 5)) (po_some pe_int))))
  (pss_cons (ps_if (pt_cmpR (op_neD hr.units) (pe_callS G_law_made (hr.mono (by decide)) (by rfl) T.g_law_made T.law_made.kp T.b_law_made .nil (atAny pass0) (pa_cons (pe_lam TB rfl (T := lawT P0) (.head _) rfl lawT_one (NdefX.ndef_free (sc := defScope s_law) (fr := ["_law_odd_here"]) (by decide +kernel)) rfl) pa_nil)) (pe_tup (pa_cons pe_str (pa_cons (pv 4) pa_nil))) (nomark _)) (pss_one (ps_ret pe_bl)) pss_nil)
  (pss_cons (ps_if (pt_cmpR (op_neD hr.units) (pe_callS G_law_made (hr.mono (by decide)) (by rfl) T.g_law_made T.law_made.kp T.b_law_made .nil (atAny pass0) (pa_cons (pe_lam TB rfl (T := lawT P0) (.head _) rfl lawT_one (NdefX.ndef_free (sc := defScope s_law) (fr := ["_law_given"]) (by decide +kernel)) rfl) pa_nil)) (pe_tup (pa_cons pe_str (pa_cons (pv 4) pa_nil))) (nomark _)) (pss_one (ps_ret pe_bl)) pss_nil)
  (pss_cons (ps_set (i := 7) sc_law.nd rfl (Or.inl rfl) (pe_callS G_law_made (hr.mono (by decide)) (by rfl) T.g_law_made T.law_made.kp T.b_law_made .nil (atAny pass0) (pa_cons (pe_lam TB rfl (T := lawT P0) (.head _) rfl lawT_one (NdefX.ndef_free (sc := defScope s_law) (fr := ["_law_words"]) (by decide +kernel)) rfl) pa_nil)))
  (pss_cons (ps_if (pt_cmpR (op_neD hr.units) (pv 7) (pe_tup (pa_cons pe_str (pa_cons pe_str pa_nil))) (nomark _)) (pss_one (ps_ret pe_bl)) pss_nil)
  (pss_cons (ps_set (i := 7) sc_law.nd rfl (Or.inl rfl) (pe_callS G_law_made (hr.mono (by decide)) (by rfl) T.g_law_made T.law_made.kp T.b_law_made .nil (atAny pass0) (pa_cons (pe_lam TB rfl (T := lawT P0) (.head _) rfl lawT_one (NdefX.ndef_free (sc := defScope s_law) (fr := ["_law_words"]) (by decide +kernel)) rfl) pa_nil)))
  (C8.pss_cut (ps_if (pt_cmpR (op_neD hr.units) (pv 7) (pe_tup (pa_cons pe_str (pa_cons (pe_slice sl_list (pv 3) po_none (po_some pe_int)) pa_nil))) (nomark _)) (pss_one (ps_ret pe_bl)) pss_nil)
  (pss_cons (ps_par (i := 8) (j := 9) rfl sc_law.nd rfl rfl (by decide) rfl rfl (pa_cons (pe_op op_add pe_int (pe_call G_law_draw (hr.mono (by decide)) (by rfl) T.g_law_draw T.law_draw.kp T.b_law_draw .nil pass0 (pa_cons (pv 2) (pa_cons pe_int pa_nil)))) (pa_cons (pe_call G_law_draw (hr.mono (by decide)) (by rfl) T.g_law_draw T.law_draw.kp T.b_law_draw .nil pass0 (pa_cons (pv 2) (pa_cons pe_int pa_nil))) pa_nil)) (by rfl))
  (pss_cons (ps_asg (pe_tup (pa_cons (pe_call G_law_conjunction (hr.mono (by decide)) (by rfl) T.g_law_conjunction T.law_conjunction.kp T.b_law_conjunction .nil pass0 (pa_cons (pe_slice sl_list (pv 3) po_none (po_some (pv 8))) pa_nil)) (pa_cons (pe_op op_add pe_int (pe_call G_law_draw (hr.mono (by decide)) (by rfl) T.g_law_draw T.law_draw.kp T.b_law_draw .nil pass0 (pa_cons (pv 2) (pa_cons pe_int pa_nil)))) pa_nil))) (pg_tup rfl (pgs_cons (pg_name (i := 10) sc_law.nd rfl (Or.inr rfl)) (pgs_cons (pg_name (i := 11) sc_law.nd rfl (Or.inl rfl)) pgs_nil))))
  (pss_cons (ps_set (i := 12) sc_law.nd rfl (Or.inr rfl) (pe_call G_law_conjunction (hr.mono (by decide)) (by rfl) T.g_law_conjunction T.law_conjunction.kp T.b_law_conjunction .nil pass0 (pa_cons (pe_slice sl_list (pv 3) (po_some (pv 9)) (po_some (pe_op op_add (pv 9) (pv 11)))) pa_nil)))
  (C8.pss_cut (ps_set (i := 13) sc_law.nd rfl (Or.inl rfl) (pe_callB (cr_sortTS rfl) (by rfl) T.n_sorted (by decide +kernel) (pa_cons (pe_callTy (cr_setTSL rfl) (by rfl) T.n_set (by decide +kernel) (pa_cons (pe_op op_cat (pe_meth0 (pv 10) T.k_Rule T.m_Rule_records G_Rule_records (hr.mono (by decide)) T.b_Rule_records .nil pass0) (pe_meth0 (pv 12) T.k_Rule T.m_Rule_records G_Rule_records (hr.mono (by decide)) T.b_Rule_records .nil pass0)) pa_nil)) pa_nil)))
  (pss_cons (ps_set (i := 14) sc_law.nd rfl (Or.inl rfl) (pe_ifExp (pt_cmpR op_lt (pe_callB call_len_seq (by rfl) T.n_len PySem.boot_len (pa_cons (pv 13) pa_nil)) pe_int (nomark _)) (pe_tup (pa_cons pe_str (pa_cons (pv 13) pa_nil))) (pe_tup (pa_cons pe_str (pa_cons pe_str pa_nil)))))
  (C8.pss_cut (ps_set (i := 15) sc_law.nd rfl (Or.inl rfl) (pe_lst (pa_cons (pe_meth0 (pv 10) T.k_Rule T.m_Rule_records G_Rule_records (hr.mono (by decide)) T.b_Rule_records .nil pass0) (pa_cons (pe_meth0 (pv 12) T.k_Rule T.m_Rule_records G_Rule_records (hr.mono (by decide)) T.b_Rule_records .nil pass0) (pa_cons (pe_callTy (call_strOwn T.m_RuleU_strU.at_ T.m_RuleU_strU.fn G_RuleU_strU (hr.mono (by decide)) T.b_RuleU_strU) (by rfl) T.n_str (by decide +kernel) (pa_cons (pv 10) pa_nil)) (pa_cons (pe_callTy (call_strOwn T.m_RuleU_strU.at_ T.m_RuleU_strU.fn G_RuleU_strU (hr.mono (by decide)) T.b_RuleU_strU) (by rfl) T.n_str (by decide +kernel) (pa_cons (pv 12) pa_nil)) pa_nil))))))
  (pss_cons (ps_set (i := 16) sc_law.nd rfl (Or.inl rfl) (pe_lst (pa_cons (pe_lam TB rfl (T := lawT P0) (.head _) rfl lawT_one (NdefX.ndef_free (sc := defScope s_law) (fr := ["_law_one", "_law_other"]) (by decide +kernel)) rfl) pa_nil)))
  (pss_cons (ps_expr (pe_bm PySem.F.plainAttrs_list PySem.F.slot_list_append PySem.F.type_list_append mt_append (pv 16) (pa_cons (pe_lam TB rfl (T := lawT P0) (.head _) rfl lawT_one (NdefX.ndef_free (sc := defScope s_law) (fr := ["_law_one", "_law_other"]) (by decide +kernel)) rfl) pa_nil)))
  (pss_cons (ps_expr (pe_bm PySem.F.plainAttrs_list PySem.F.slot_list_append PySem.F.type_list_append mt_append (pv 16) (pa_cons (pe_lam TB rfl (T := lawT P0) (.head _) rfl lawT_one (NdefX.ndef_free (sc := defScope s_law) (fr := ["_law_one", "_law_other"]) (by decide +kernel)) rfl) pa_nil)))
  (C8.pss_cut (ps_for PassesOwn.never rfl (pi_list (pv 16)) (pg_name (i := 17) sc_law.nd rfl (Or.inl rfl))
  (pss_one (ps_if (pt_cmpR (op_neD hr.units) (pe_callS G_law_made (hr.mono (by decide)) (by rfl) T.g_law_made T.law_made.kp T.b_law_made .nil (atAny pass0) (pa_cons (pv 17) pa_nil)) (pv 14) (nomark _)) (pss_one (ps_ret pe_bl)) pss_nil)))
  (pss_one (ps_if (PW.pt (pw_or (pt_cmpR (op_neD hr.units) (pe_lst (pa_cons (pe_meth0 (pv 10) T.k_Rule T.m_Rule_records G_Rule_records (hr.mono (by decide)) T.b_Rule_records .nil pass0) (pa_cons (pe_meth0 (pv 12) T.k_Rule T.m_Rule_records G_Rule_records (hr.mono (by decide)) T.b_Rule_records .nil pass0) (pa_cons (pe_callTy (call_strOwn T.m_RuleU_strU.at_ T.m_RuleU_strU.fn G_RuleU_strU (hr.mono (by decide)) T.b_RuleU_strU) (by rfl) T.n_str (by decide +kernel) (pa_cons (pv 10) pa_nil)) (pa_cons (pe_callTy (call_strOwn T.m_RuleU_strU.at_ T.m_RuleU_strU.fn G_RuleU_strU (hr.mono (by decide)) T.b_RuleU_strU) (by rfl) T.n_str (by decide +kernel) (pa_cons (pv 12) pa_nil)) pa_nil))))) (pv 15) (nomark _)) (pw_or1 (pt_cmpR (op_neD hr.units) (pe_meth0 (pe_un (un_own (T.m_RuleU_invertU.at_) (T.m_RuleU_invertU.fn) G_RuleU_invertU (hr.mono (by decide)) T.b_RuleU_invertU pass0) (pv 10)) T.k_Rule T.m_Rule_records G_Rule_records (hr.mono (by decide)) T.b_Rule_records .nil pass0) (pe_slice sl_list (pv 3) po_none (po_some (pv 8))) (nomark _))))) (pss_one (ps_ret pe_bl)) pss_nil))))))))))))))))))))))))
  (pss_one (ps_ret pe_bl))), ?_⟩
    dsimp only [cxOf]
    walk_at "rd"
    refine for_range (fun i σ H1 => i ≤ 63 ∧ Et H H1 ∧ NdefX.TabsN (lawT P0) H1 ∧ ∃ v1 v2 v3 v4 v5 v6 v7 v8 v9 v10 v11 v12 v13 v14 v15 v16 v17, σ = [some (.ref sa), v1, v2, v3, v4, v5, v6, v7, v8, v9, v10, v11, v12, v13, v14, v15, v16, v17]) ?_ ?_ ?_
    · refine ⟨by omega, .of (Same.refl H), fun q hq => ?_, _, _, _, _, _, _, _, _, _, _, _, _, _, _, _, _, _, rfl⟩
      rw [List.mem_singleton.mp hq]
      exact .nil hP
    · rintro i σ H1 hi ⟨h12, s1, tb1, v1, v2, v3, v4, v5, v6, v7, v8, v9, v10, v11, v12, v13, v14, v15, v16, v17, rfl⟩
      have hi12 : i < 63 := by revert hi; split <;> split <;> omega
      refine ⟨_, rfl, _, rfl, sa, ns, i, ?_, s1.sq hS, by omega, fun p o hp ho => ?_⟩
      · rw [Int.zero_add]; rfl
      have I0 : P18 P0 H (upd H1 p o) p 0 := ⟨s1.trans (.of ((Same.refl H1).new hp)), ⟨o, upd_same, ho⟩, s1.fr _ hp, tb1.ext ((Same.refl H1).new hp)⟩
      have hp0 := upd_same (H := H1) (a := p) (o := o)
      generalize upd H1 p o = H2 at I0 hp0 ⊢
      walk_at "rd"
      intro q1 hq1
      have n1 : q1 ≠ p := Ne.symm (ne_of_none hp0 hq1)
      refine lc_range (fun j H' => j ≤ 13 ∧ ∃ L : List Str, L13 L j ∧ P18 P0 H H' p (9 * j) ∧ H' q1 = some (.lst (L.map V.str))) ?_ ?_ ?_
      · exact ⟨by omega, [], .nil, I0.keep ((Same.refl _).new hq1), upd_same⟩
      · rintro j H4 hj ⟨j7, L, e1, I4, e3⟩
        refine ⟨rfl, ?_⟩
        obtain ⟨o4, hp4, ho4⟩ := I4.pool
        walk_at "rd"
        intro w5 o5 H5 hw5 h5 hp5 kp5
        have I5 := I4.draw kp5 hp5 h5
        have hq5 := kp5 _ _ e3 n1
        walk_at "rd"
        obtain ⟨b5, c5⟩ := cut_word hw5 7 (.inr rfl) j (by omega)
        have l5 : w5.length ≤ 8 := by rw [← len_toList]; exact hw5.hi
        refine ⟨by rw [sizeLine_eq]; omega, ?_⟩
        walk_at "rd"
        refine ⟨let_at j (by omega), ?_⟩
        walk_at "rd"
        have l6 : (cutS w5 none (some 7)).length ≤ 7 := by
          rw [← len_toList, show ((7 : Int)) = ((7 : Nat) : Int) from rfl, cutS_take, List.length_take]; omega
        refine ⟨by rw [sizeLine_eq]; show _ + 1 ≤ _; omega, _, hq5, by rw [List.length_map, e1.len, sizeLine_eq]; omega, by omega, L ++ [_], e1.snoc c5 b5, ?_, ?_⟩
        · exact (I5.acc (I0.et.fr _ hq1) hq5 n1).up (by omega)
        · rw [upd_same, List.map_append]; rfl
      · rintro H4 ⟨_, L, e1, I4, e3⟩
        walk_at "rd"
        intro q2 hq2
        have n2 : q2 ≠ p := by
          obtain ⟨o4, hp4, ho4⟩ := I4.pool
          exact Ne.symm (ne_of_none hp4 hq2)
        have n21 : q1 ≠ q2 := ne_of_none e3 hq2
        have I5 := I4.keep ((Same.refl _).new (o := .lst []) hq2)
        refine lc_range (fun j H' => j ≤ 13 ∧ ∃ M : List Str, L13 M j ∧ P18 P0 H H' p (9 * 13) ∧ H' q1 = some (.lst (L.map V.str)) ∧ H' q2 = some (.lst (M.map V.str))) ?_ ?_ ?_
        · exact ⟨by omega, [], .nil, I5, upd_old e3 hq2, upd_same⟩
        · rintro j H6 hj ⟨j7, M, e4, I6, e5, e6⟩
          refine ⟨rfl, ?_⟩
          obtain ⟨zj, hzj⟩ : ∃ z, L[j]? = some z := ⟨_, List.getElem?_eq_getElem (by rw [e1.len]; omega)⟩
          have iz := e1.iw zj (List.mem_of_getElem? hzj)
          obtain ⟨b5, c5⟩ := cut_word iz 6 (.inl rfl) j (by omega)
          walk_at "rd"
          refine ⟨by rw [Int.zero_add]; exact atI_nat (show (L.map V.str)[j]? = some (.str zj) by rw [List.getElem?_map, hzj]; rfl), ?_⟩
          walk_at "rd"
          have l5 : zj.length ≤ 8 := by rw [← len_toList]; exact iz.hi
          refine ⟨by rw [sizeLine_eq]; omega, ?_⟩
          walk_at "rd"
          refine ⟨let_at j (by omega), ?_⟩
          walk_at "rd"
          have l6 : (cutS zj none (some 6)).length ≤ 6 := by
            rw [← len_toList, show ((6 : Int)) = ((6 : Nat) : Int) from rfl, cutS_take, List.length_take]; omega
          refine ⟨by rw [sizeLine_eq]; show _ + 1 ≤ _; omega, _, e6, by rw [List.length_map, e4.len, sizeLine_eq]; omega, by omega, M ++ [_], e4.snoc c5 b5, ?_, ?_, ?_⟩
          · exact I6.acc (I4.et.fr _ hq2) e6 n2
          · exact upd_oth n21 e5
          · rw [upd_same, List.map_append]; rfl
        · rintro H6 ⟨_, M, e4, I6, e5, e6⟩
          walk_at "rd"
          refine ⟨by rw [e4.len]; decide, ?_⟩
          intro q7 hq7
          have I7 := I6.keep ((Same.refl H6).new (o := TSO w q7 (setT M)) hq7)
          have ht7 := upd_same (H := H6) (a := q7) (o := TSO w q7 (setT M))
          generalize upd H6 q7 (TSO w q7 (setT M)) = H7 at I7 ht7 ⊢
          walk_at "rd"
          intro q8 hq8
          have I8 := I7.keep ((Same.refl H7).new (o := .lst ((sortT (setT M)).map V.str)) hq8)
          have hw8 := upd_same (H := H7) (a := q8) (o := .lst ((sortT (setT M)).map V.str))
          have WW : W13 (sortT (setT M)) := w13_of e4.len e4.nd e4.iw
          have n8 : q8 ≠ p := by
            obtain ⟨o7, hp7, ho7⟩ := I7.pool
            exact Ne.symm (ne_of_none hp7 hq8)
          generalize upd H7 q8 (.lst ((sortT (setT M)).map V.str)) = H8 at I8 hw8 ⊢
          generalize sortT (setT M) = W at hw8 WW
          clear I7 ht7 hq7 hq8 I6 e5 e6 e4 I5 n21 n2 hq2 I4 e3 e1 hq1 n1 I0 hp0 hp ho
          obtain ⟨o8, hp8, ho8⟩ := I8.pool
          walk_at "rd"
          intro odd o9 H9 h9 hp9 hodd kp9
          have I9 := I8.draw kp9 hp9 h9
          have hw9 := kp9 _ _ hw8 n8
          walk_at "rd"
          intro k10 o10 k100 k101 h10
          have I10 := I9.draw (o' := o10) Kp.refl.set1 upd_same h10
          have hw10 : (upd H9 p o10) q8 = some (.lst (W.map V.str)) := upd_oth n8 hw9
          have od10 : OddV K (upd H9 p o10) odd := hodd _ Kp.refl.set1
          have S10 : S18 P0 K H p q8 W odd (upd H9 p o10) := ⟨I10.up (by omega), hw10, od10⟩
          generalize upd H9 p o10 = H10 at S10 ⊢
          clear hodd hw9 I9 kp9 hp9 h9 I8 hw8 hp8 ho8 I10 hw10 od10
          have ek : ((k10.toNat : Nat) : Int) = k10 := by omega
          have kk : k10.toNat < 8 := by omega
          have WL := WW.len
          walk_at "rd"
          intro q11 hq11
          have s11 := (Same.refl H10).new (o := .tup [odd, V.int k10]) hq11
          have b11 := upd_same (H := H10) (a := q11) (o := .tup [odd, V.int k10])
          have S11 := S10.keep s11
          refine ⟨q11, _, rfl, SqT.of b11, rfl, ?_⟩
          generalize upd H10 q11 (.tup [odd, V.int k10]) = H11 at S11 b11  ⊢
          clear s11 hq11 S10
          have hw11 := S11.hw
          refine ⟨_, _, rfl, _, _, rfl, rfl, ?_⟩
          refine ⟨fun σ F => S18 P0 K H p q8 W odd F ∧ ∃ (q16 : Addr) (u1 u2 u5 u7 u8 u9 u10 u11 u12 u13 u14 u15 u16 u17 : Option V), F q16 = some (.lst ((W.take k10.toNat).map V.str ++ [odd] ++ ((W.take 7).drop k10.toNat).map V.str)) ∧ u2 = some (.ref p) ∧ σ = [some (.ref sa), u1, u2, some (.ref q8), some odd, u5, some (.ref q16), u7, u8, u9, u10, u11, u12, u13, u14, u15, u16, u17], ?_, ?_⟩
          walk_at "rd"
          intro q12 hq12
          have s12 := (Same.refl H11).new (o := .lst (cutV (W.map V.str) none (some k10))) hq12
          have b12 := upd_same (H := H11) (a := q12) (o := .lst (cutV (W.map V.str) none (some k10)))
          have S12 := S11.keep s12
          generalize upd H11 q12 (.lst (cutV (W.map V.str) none (some k10))) = H12 at S12 b12  ⊢
          clear s12 hq12 S11
          rw [← ek, cut_to, ← List.map_take] at b12
          clear hw11
          walk_at "rd"
          intro q13 hq13
          have s13 := (Same.refl H12).new (o := .lst [odd]) hq13
          have b13 := upd_same (H := H12) (a := q13) (o := .lst [odd])
          have S13 := S12.keep s13
          have b12 := s13 _ _ b12
          generalize upd H12 q13 (.lst [odd]) = H13 at S13 b13 b12 ⊢
          clear s13 hq13 S12
          walk_at "rd"
          refine ⟨by rw [List.length_map, List.length_take, sizeLine_eq]; show _ + 1 ≤ _; omega, ?_⟩
          intro q14 hq14
          have s14 := (Same.refl H13).new (o := .lst ((W.take k10.toNat).map V.str ++ [odd])) hq14
          have b14 := upd_same (H := H13) (a := q14) (o := .lst ((W.take k10.toNat).map V.str ++ [odd]))
          have S14 := S13.keep s14
          generalize upd H13 q14 (.lst ((W.take k10.toNat).map V.str ++ [odd])) = H14 at S14 b14  ⊢
          clear b12 b13 s14 hq14 S13
          have hw14 := S14.hw
          walk_at "rd"
          intro q15 hq15
          have s15 := (Same.refl H14).new (o := .lst (cutV (W.map V.str) (some k10) (some 7))) hq15
          have b15 := upd_same (H := H14) (a := q15) (o := .lst (cutV (W.map V.str) (some k10) (some 7)))
          have S15 := S14.keep s15
          have b14 := s15 _ _ b14
          generalize upd H14 q15 (.lst (cutV (W.map V.str) (some k10) (some 7))) = H15 at S15 b15 b14 ⊢
          clear s15 hq15 S14
          rw [← ek, show (7 : Int) = ((7 : Nat) : Int) from rfl, cut_ft, ← List.map_take, ← List.map_drop] at b15
          clear hw14
          walk_at "rd"
          refine ⟨by rw [List.length_append, List.length_map, List.length_map, List.length_drop, List.length_take, List.length_take, sizeLine_eq]; show _ + 1 + _ ≤ _; omega, ?_⟩
          intro q16 hq16
          have s16 := (Same.refl H15).new (o := .lst ((W.take k10.toNat).map V.str ++ [odd] ++ ((W.take 7).drop k10.toNat).map V.str)) hq16
          have b16 := upd_same (H := H15) (a := q16) (o := .lst ((W.take k10.toNat).map V.str ++ [odd] ++ ((W.take 7).drop k10.toNat).map V.str))
          have S16 := S15.keep s16
          generalize upd H15 q16 (.lst ((W.take k10.toNat).map V.str ++ [odd] ++ ((W.take 7).drop k10.toNat).map V.str)) = H16 at S16 b16  ⊢
          clear b14 b15 s16 hq16 S15
          exact ⟨S16, q16, _, _, _, _, _, _, _, _, _, _, _, _, _, _, b16, rfl, rfl⟩
          rintro σ H16 ⟨S16, q16, u1, u2, u5, u7, u8, u9, u10, u11, u12, u13, u14, u15, u16, u17, b16, rfl, rfl⟩
          refine And.intro S16.I.tb ?_
          intro f17 c17 H17 e17 n17 t17 z17 hf17 hc17 h17 kn17
          have S17 := S16.lam e17 n17 t17
          have b16 := Et.lst ⟨e17, n17⟩ b16
          clear e17 n17 t17 z17 S16
          refine made_lam (N := ["_law_odd_here"]) (ws := [some odd]) (Φ := fun H => Thing H odd) (oc := .bad odd) hf17 hc17 (NdefX.nscope_by (by dsimp only [lamF]; decide +kernel)) (kn17.own _ _ [4] (NdefX.Caps.made kn17.ok (NdefX.ndef_free (sc := defScope s_law) (fr := ["_law_odd_here"]) (by decide +kernel)) (by decide +kernel) rfl) (fun _ _ _ => rfl)) (fun pm ctv => rfl) (fun A outer s H Q E hr th q => ⟨_, (pe_smeth (pe_glob (v := .ref a.Rule) (by rfl) T.g_Rule rfl) T.r_Rule T.s_Rule_has G_Rule_has (hr.mono (by decide)) T.Rule_has.kp T.b_Rule_has .nil (passes_call (takes_of rfl rfl rfl rfl) (fun _ _ _ _ h => h)) (pa_cons (pv 0) pa_nil)), ?_⟩) S17.od.th (fun f z => nomatch z) ?_
          · walk_at "rd"
            have e := q _ (Same.refl H)
            have nw := S17.od.nw
            cases odd with
            | str z => dsimp only; rw [if_neg (by rw [show wordS z = false from nw]; simp)]; exact e
            | _ => exact e
          intro H18 q18 x18 s18 hq18 t18 pay
          have S18 := S17.keep s18
          have b16 := s18 _ _ b16
          clear hf17 hc17 kn17 s18 hq18 S17
          cases pay
          walk_at "rd"
          intro q19 hq19
          have s19 := (Same.refl H18).new (o := .tup [V.str "badword", odd]) hq19
          have b19 := upd_same (H := H18) (a := q19) (o := .tup [V.str "badword", odd])
          have S19 := S18.keep s19
          have b16 := s19 _ _ b16
          have t18 := s19 _ _ t18
          generalize upd H18 q19 (.tup [V.str "badword", odd]) = H19 at S19 b19 b16 t18 ⊢
          clear s19 hq19 S18
          refine ne_bad S19.od t18 b19 ?_
          clear t18 b19
          walk_at "rd"
          refine iteF ?_
          obtain ⟨g8, gb, gt⟩ := given_ok WW kk S19.od.th S19.od.nw
          refine And.intro S19.I.tb ?_
          intro f20 c20 H20 e20 n20 t20 z20 hf20 hc20 h20 kn20
          have S20 := S19.lam e20 n20 t20
          have b16 := Et.lst ⟨e20, n20⟩ b16
          clear e20 n20 t20 z20 S19
          refine made_lam (N := ["_law_given"]) (ws := [some (.ref q16)]) (Φ := fun H => H q16 = some (.lst ((W.take k10.toNat).map V.str ++ [odd] ++ ((W.take 7).drop k10.toNat).map V.str)) ∧ ∀ x ∈ (W.take k10.toNat).map V.str ++ [odd] ++ ((W.take 7).drop k10.toNat).map V.str, Thing H x) (oc := .bad odd) hf20 hc20 (NdefX.nscope_by (by dsimp only [lamF]; decide +kernel)) (kn20.own _ _ [6] (NdefX.Caps.made kn20.ok (NdefX.ndef_free (sc := defScope s_law) (fr := ["_law_given"]) (by decide +kernel)) (by decide +kernel) rfl) (fun _ _ _ => rfl)) (fun pm ctv => rfl) (fun A outer s H Q E hr th q => ⟨_, (pe_call G_law_eight (hr.mono (by decide)) (by rfl) T.g_law_eight T.law_eight.kp T.b_law_eight .nil (passes_call (takes_of rfl rfl rfl rfl) (fun _ _ _ _ h => h)) (pa_cons (pv 0) pa_nil)), ?_⟩) ⟨b16, (given_ok WW kk S20.od.th S20.od.nw).2.2⟩ (fun f z => nomatch z) ?_
          · obtain ⟨hq, tx⟩ := th
            obtain ⟨x0, x1, x2, x3, x4, x5, x6, x7, eG⟩ := eight_of g8
            rw [eG] at hq tx
            walk_at "rd"
            refine ⟨(), q16, x0, x1, x2, x3, x4, x5, x6, x7, rfl, hq, tx, fun H' s => ?_⟩
            unfold outT
            rw [← eG, gb]
            exact q H' s
          intro H21 q21 x21 s21 hq21 t21 pay
          have S21 := S20.keep s21
          have b16 := s21 _ _ b16
          clear hf20 hc20 kn20 s21 hq21 S20
          cases pay
          walk_at "rd"
          intro q22 hq22
          have s22 := (Same.refl H21).new (o := .tup [V.str "badword", odd]) hq22
          have b22 := upd_same (H := H21) (a := q22) (o := .tup [V.str "badword", odd])
          have S22 := S21.keep s22
          have t21 := s22 _ _ t21
          generalize upd H21 q22 (.tup [V.str "badword", odd]) = H22 at S22 b22 t21 ⊢
          clear s22 hq22 S21
          refine ne_bad S22.od t21 b22 ?_
          clear t21 b22 b16 g8 gb gt
          walk_at "rd"
          refine iteF ?_
          have WE := thirteen_of WW.len
          obtain ⟨w0, w1, w2, w3, w4, w5, w6, r, eW, lr⟩ := WE
          subst eW
          refine And.intro S22.I.tb ?_
          intro f23 c23 H23 e23 n23 t23 z23 hf23 hc23 h23 kn23
          have S23 := S22.lam e23 n23 t23
          clear e23 n23 t23 z23 S22
          refine made_lam (N := ["_law_words"]) (ws := [some (.ref q8)]) (Φ := fun H => H q8 = some (.lst ((w0 :: w1 :: w2 :: w3 :: w4 :: w5 :: w6 :: r).map V.str))) (oc := .many) hf23 hc23 (NdefX.nscope_by (by dsimp only [lamF]; decide +kernel)) (kn23.own _ _ [3] (NdefX.Caps.made kn23.ok (NdefX.ndef_free (sc := defScope s_law) (fr := ["_law_words"]) (by decide +kernel)) (by decide +kernel) rfl) (fun _ _ _ => rfl)) (fun pm ctv => rfl) (fun A outer s H Q E hr th q => ⟨_, (pe_call G_law_eight (hr.mono (by decide)) (by rfl) T.g_law_eight T.law_eight.kp T.b_law_eight .nil (passes_call (takes_of rfl rfl rfl rfl) (fun _ _ _ _ h => h)) (pa_cons (pe_op op_cat (pe_op op_cat (pe_lst (pa_cons (pe_ix ix_list (pv 0) pe_int (fun _ _ => rfl)) pa_nil)) (pe_slice sl_list (pv 0) (po_some pe_int) (po_some pe_int))) (pe_lst (pa_cons (pe_ix ix_list (pv 0) pe_int (fun _ _ => rfl)) (pa_cons (pe_ix ix_list (pv 0) pe_int (fun _ _ => rfl)) pa_nil)))) pa_nil)), ?_⟩) S23.hw (fun f z => nomatch z) ?_
          · have iw : ∀ z ∈ w0 :: w1 :: w2 :: w3 :: w4 :: w5 :: w6 :: r, IsWord z := WW.iw
            have i0 := iw w0 (by simp)
            have i1 := iw w1 (by simp)
            have i2 := iw w2 (by simp)
            have i3 := iw w3 (by simp)
            have i4 := iw w4 (by simp)
            have i5 := iw w5 (by simp)
            have i6 := iw w6 (by simp)
            have a0 : atI ((w0 :: w1 :: w2 :: w3 :: w4 :: w5 :: w6 :: r).map V.str) 0 = some (.str w0) := atI_nat (j := 0) rfl
            have a1 : atI ((w0 :: w1 :: w2 :: w3 :: w4 :: w5 :: w6 :: r).map V.str) 1 = some (.str w1) := atI_nat (j := 1) rfl
            have a4 : atI ((w0 :: w1 :: w2 :: w3 :: w4 :: w5 :: w6 :: r).map V.str) 4 = some (.str w4) := atI_nat (j := 4) rfl
            have a5 : atI ((w0 :: w1 :: w2 :: w3 :: w4 :: w5 :: w6 :: r).map V.str) 5 = some (.str w5) := atI_nat (j := 5) rfl
            have a6 : atI ((w0 :: w1 :: w2 :: w3 :: w4 :: w5 :: w6 :: r).map V.str) 6 = some (.str w6) := atI_nat (j := 6) rfl
            walk_at "rd"
            intro u1 hu1
            have so1 := (Same.refl H).new (o := .lst [V.str w6]) hu1
            have sm1 := (Same.refl H).trans so1
            have d1 := upd_same (H := H) (a := u1) (o := .lst [V.str w6])
            have th := so1 _ _ th
            generalize upd H u1 (.lst [V.str w6]) = J1 at sm1 d1 th ⊢
            clear so1 hu1
            walk_at "rd"
            intro u2 hu2
            have so2 := (Same.refl J1).new (o := .lst (cutV ((w0 :: w1 :: w2 :: w3 :: w4 :: w5 :: w6 :: r).map V.str) (some 1) (some 6))) hu2
            have sm2 := sm1.trans so2
            have d2 := upd_same (H := J1) (a := u2) (o := .lst (cutV ((w0 :: w1 :: w2 :: w3 :: w4 :: w5 :: w6 :: r).map V.str) (some 1) (some 6)))
            have th := so2 _ _ th
            have d1 := so2 _ _ d1
            generalize upd J1 u2 (.lst (cutV ((w0 :: w1 :: w2 :: w3 :: w4 :: w5 :: w6 :: r).map V.str) (some 1) (some 6))) = J2 at sm2 d2 th d1 ⊢
            clear so2 hu2
            rw [show cutV ((w0 :: w1 :: w2 :: w3 :: w4 :: w5 :: w6 :: r).map V.str) (some 1) (some 6) = [.str w1, .str w2, .str w3, .str w4, .str w5] from cut_ft _ 1 6] at d2
            walk_at "rd"
            intro u3 hu3
            have so3 := (Same.refl J2).new (o := .lst ([V.str w6] ++ [V.str w1, V.str w2, V.str w3, V.str w4, V.str w5])) hu3
            have sm3 := sm2.trans so3
            have d3 := upd_same (H := J2) (a := u3) (o := .lst ([V.str w6] ++ [V.str w1, V.str w2, V.str w3, V.str w4, V.str w5]))
            have th := so3 _ _ th
            generalize upd J2 u3 (.lst ([V.str w6] ++ [V.str w1, V.str w2, V.str w3, V.str w4, V.str w5])) = J3 at sm3 d3 th ⊢
            clear so3 hu3
            clear d1
            clear d2
            change J3 u3 = some (.lst [V.str w6, V.str w1, V.str w2, V.str w3, V.str w4, V.str w5]) at d3
            walk_at "rd"
            intro u4 hu4
            have so4 := (Same.refl J3).new (o := .lst [V.str w0, V.str w1]) hu4
            have sm4 := sm3.trans so4
            have d4 := upd_same (H := J3) (a := u4) (o := .lst [V.str w0, V.str w1])
            have d3 := so4 _ _ d3
            generalize upd J3 u4 (.lst [V.str w0, V.str w1]) = J4 at sm4 d4 d3 ⊢
            clear so4 hu4
            clear th
            walk_at "rd"
            intro u5 hu5
            have so5 := (Same.refl J4).new (o := .lst ([V.str w6, V.str w1, V.str w2, V.str w3, V.str w4, V.str w5] ++ [V.str w0, V.str w1])) hu5
            have sm5 := sm4.trans so5
            have d5 := upd_same (H := J4) (a := u5) (o := .lst ([V.str w6, V.str w1, V.str w2, V.str w3, V.str w4, V.str w5] ++ [V.str w0, V.str w1]))
            generalize upd J4 u5 (.lst ([V.str w6, V.str w1, V.str w2, V.str w3, V.str w4, V.str w5] ++ [V.str w0, V.str w1])) = J5 at sm5 d5  ⊢
            clear so5 hu5
            clear d3
            clear d4
            change J5 u5 = some (.lst [V.str w6, V.str w1, V.str w2, V.str w3, V.str w4, V.str w5, V.str w0, V.str w1]) at d5
            walk_at "rd"
            refine ⟨(), u5, _, _, _, _, _, _, _, _, rfl, d5, fun x hx => ?_, fun H' s => ?_⟩
            · simp only [List.mem_cons, List.not_mem_nil, or_false] at hx
              rcases hx with rfl | rfl | rfl | rfl | rfl | rfl | rfl | rfl
              · exact word_thing i6
              · exact word_thing i1
              · exact word_thing i2
              · exact word_thing i3
              · exact word_thing i4
              · exact word_thing i5
              · exact word_thing i0
              · exact word_thing i1
            · unfold outT
              rw [badV_no (xs := [V.str w6, V.str w1, V.str w2, V.str w3, V.str w4, V.str w5, V.str w0, V.str w1]) (fun x hx => ?_)]
              · intro zs ez wz
                obtain rfl : [w6, w1, w2, w3, w4, w5, w0, w1] = zs := str_inj (xs := [w6, w1, w2, w3, w4, w5, w0, w1]) ez
                rw [if_pos (seven_many WW)]
                exact fun H2 s2 => q H2 ((sm5.trans s).trans s2)
              · simp only [List.mem_cons, List.not_mem_nil, or_false] at hx
                rcases hx with rfl | rfl | rfl | rfl | rfl | rfl | rfl | rfl
                · exact i6.ok
                · exact i1.ok
                · exact i2.ok
                · exact i3.ok
                · exact i4.ok
                · exact i5.ok
                · exact i0.ok
                · exact i1.ok
          intro H24 q24 x24 s24 hq24 t24 pay
          have S24 := S23.keep s24
          clear hf23 hc23 kn23 s24 hq24 S23
          cases pay
          walk_at "rd"
          intro q25 hq25
          have s25 := (Same.refl H24).new (o := .tup [V.str "toomany", V.str "records"]) hq25
          have b25 := upd_same (H := H24) (a := q25) (o := .tup [V.str "toomany", V.str "records"])
          have S25 := S24.keep s25
          have t24 := s25 _ _ t24
          generalize upd H24 q25 (.tup [V.str "toomany", V.str "records"]) = H25 at S25 b25 t24 ⊢
          clear s25 hq25 S24
          refine ne_many ⟨_, _, rfl, t24, rfl⟩ ⟨_, _, rfl, b25, rfl⟩ ?_
          clear t24 b25
          walk_at "rd"
          refine iteF ?_
          refine And.intro S25.I.tb ?_
          intro f26 c26 H26 e26 n26 t26 z26 hf26 hc26 h26 kn26
          have S26 := S25.lam e26 n26 t26
          clear e26 n26 t26 z26 S25
          refine made_lam (N := ["_law_words"]) (ws := [some (.ref q8)]) (Φ := fun H => H q8 = some (.lst ((w0 :: w1 :: w2 :: w3 :: w4 :: w5 :: w6 :: r).map V.str))) (oc := .rule (.tog (sortT (setT [w1, w0, w2, w3, w1, w2, w5, w4])))) hf26 hc26 (NdefX.nscope_by (by dsimp only [lamF]; decide +kernel)) (kn26.own _ _ [3] (NdefX.Caps.made kn26.ok (NdefX.ndef_free (sc := defScope s_law) (fr := ["_law_words"]) (by decide +kernel)) (by decide +kernel) rfl) (fun _ _ _ => rfl)) (fun pm ctv => rfl) (fun A outer s H Q E hr th q => ⟨_, (pe_call G_law_eight (hr.mono (by decide)) (by rfl) T.g_law_eight T.law_eight.kp T.b_law_eight .nil (passes_call (takes_of rfl rfl rfl rfl) (fun _ _ _ _ h => h)) (pa_cons (pe_op op_cat (pe_op op_cat (pe_op op_cat (pe_lst (pa_cons (pe_ix ix_list (pv 0) pe_int (fun _ _ => rfl)) (pa_cons (pe_ix ix_list (pv 0) pe_int (fun _ _ => rfl)) pa_nil))) (pe_slice sl_list (pv 0) (po_some pe_int) (po_some pe_int))) (pe_slice sl_list (pv 0) (po_some pe_int) (po_some pe_int))) (pe_lst (pa_cons (pe_ix ix_list (pv 0) pe_int (fun _ _ => rfl)) (pa_cons (pe_ix ix_list (pv 0) pe_int (fun _ _ => rfl)) pa_nil)))) pa_nil)), ?_⟩) S26.hw (fun f z => by cases z; show 0 < 8; omega) ?_
          · have iw : ∀ z ∈ w0 :: w1 :: w2 :: w3 :: w4 :: w5 :: w6 :: r, IsWord z := WW.iw
            have i0 := iw w0 (by simp)
            have i1 := iw w1 (by simp)
            have i2 := iw w2 (by simp)
            have i3 := iw w3 (by simp)
            have i4 := iw w4 (by simp)
            have i5 := iw w5 (by simp)
            have i6 := iw w6 (by simp)
            have a0 : atI ((w0 :: w1 :: w2 :: w3 :: w4 :: w5 :: w6 :: r).map V.str) 0 = some (.str w0) := atI_nat (j := 0) rfl
            have a1 : atI ((w0 :: w1 :: w2 :: w3 :: w4 :: w5 :: w6 :: r).map V.str) 1 = some (.str w1) := atI_nat (j := 1) rfl
            have a4 : atI ((w0 :: w1 :: w2 :: w3 :: w4 :: w5 :: w6 :: r).map V.str) 4 = some (.str w4) := atI_nat (j := 4) rfl
            have a5 : atI ((w0 :: w1 :: w2 :: w3 :: w4 :: w5 :: w6 :: r).map V.str) 5 = some (.str w5) := atI_nat (j := 5) rfl
            have a6 : atI ((w0 :: w1 :: w2 :: w3 :: w4 :: w5 :: w6 :: r).map V.str) 6 = some (.str w6) := atI_nat (j := 6) rfl
            walk_at "rd"
            intro u1 hu1
            have so1 := (Same.refl H).new (o := .lst [V.str w1, V.str w0]) hu1
            have sm1 := (Same.refl H).trans so1
            have d1 := upd_same (H := H) (a := u1) (o := .lst [V.str w1, V.str w0])
            have th := so1 _ _ th
            generalize upd H u1 (.lst [V.str w1, V.str w0]) = J1 at sm1 d1 th ⊢
            clear so1 hu1
            walk_at "rd"
            intro u2 hu2
            have so2 := (Same.refl J1).new (o := .lst (cutV ((w0 :: w1 :: w2 :: w3 :: w4 :: w5 :: w6 :: r).map V.str) (some 2) (some 4))) hu2
            have sm2 := sm1.trans so2
            have d2 := upd_same (H := J1) (a := u2) (o := .lst (cutV ((w0 :: w1 :: w2 :: w3 :: w4 :: w5 :: w6 :: r).map V.str) (some 2) (some 4)))
            have th := so2 _ _ th
            have d1 := so2 _ _ d1
            generalize upd J1 u2 (.lst (cutV ((w0 :: w1 :: w2 :: w3 :: w4 :: w5 :: w6 :: r).map V.str) (some 2) (some 4))) = J2 at sm2 d2 th d1 ⊢
            clear so2 hu2
            rw [show cutV ((w0 :: w1 :: w2 :: w3 :: w4 :: w5 :: w6 :: r).map V.str) (some 2) (some 4) = [.str w2, .str w3] from cut_ft _ 2 4] at d2
            walk_at "rd"
            intro u3 hu3
            have so3 := (Same.refl J2).new (o := .lst ([V.str w1, V.str w0] ++ [V.str w2, V.str w3])) hu3
            have sm3 := sm2.trans so3
            have d3 := upd_same (H := J2) (a := u3) (o := .lst ([V.str w1, V.str w0] ++ [V.str w2, V.str w3]))
            have th := so3 _ _ th
            generalize upd J2 u3 (.lst ([V.str w1, V.str w0] ++ [V.str w2, V.str w3])) = J3 at sm3 d3 th ⊢
            clear so3 hu3
            clear d1
            clear d2
            change J3 u3 = some (.lst [V.str w1, V.str w0, V.str w2, V.str w3]) at d3
            walk_at "rd"
            intro u4 hu4
            have so4 := (Same.refl J3).new (o := .lst (cutV ((w0 :: w1 :: w2 :: w3 :: w4 :: w5 :: w6 :: r).map V.str) (some 1) (some 3))) hu4
            have sm4 := sm3.trans so4
            have d4 := upd_same (H := J3) (a := u4) (o := .lst (cutV ((w0 :: w1 :: w2 :: w3 :: w4 :: w5 :: w6 :: r).map V.str) (some 1) (some 3)))
            have th := so4 _ _ th
            have d3 := so4 _ _ d3
            generalize upd J3 u4 (.lst (cutV ((w0 :: w1 :: w2 :: w3 :: w4 :: w5 :: w6 :: r).map V.str) (some 1) (some 3))) = J4 at sm4 d4 th d3 ⊢
            clear so4 hu4
            rw [show cutV ((w0 :: w1 :: w2 :: w3 :: w4 :: w5 :: w6 :: r).map V.str) (some 1) (some 3) = [.str w1, .str w2] from cut_ft _ 1 3] at d4
            walk_at "rd"
            intro u5 hu5
            have so5 := (Same.refl J4).new (o := .lst ([V.str w1, V.str w0, V.str w2, V.str w3] ++ [V.str w1, V.str w2])) hu5
            have sm5 := sm4.trans so5
            have d5 := upd_same (H := J4) (a := u5) (o := .lst ([V.str w1, V.str w0, V.str w2, V.str w3] ++ [V.str w1, V.str w2]))
            have th := so5 _ _ th
            generalize upd J4 u5 (.lst ([V.str w1, V.str w0, V.str w2, V.str w3] ++ [V.str w1, V.str w2])) = J5 at sm5 d5 th ⊢
            clear so5 hu5
            clear d3
            clear d4
            change J5 u5 = some (.lst [V.str w1, V.str w0, V.str w2, V.str w3, V.str w1, V.str w2]) at d5
            walk_at "rd"
            intro u6 hu6
            have so6 := (Same.refl J5).new (o := .lst [V.str w5, V.str w4]) hu6
            have sm6 := sm5.trans so6
            have d6 := upd_same (H := J5) (a := u6) (o := .lst [V.str w5, V.str w4])
            have d5 := so6 _ _ d5
            generalize upd J5 u6 (.lst [V.str w5, V.str w4]) = J6 at sm6 d6 d5 ⊢
            clear so6 hu6
            clear th
            walk_at "rd"
            intro u7 hu7
            have so7 := (Same.refl J6).new (o := .lst ([V.str w1, V.str w0, V.str w2, V.str w3, V.str w1, V.str w2] ++ [V.str w5, V.str w4])) hu7
            have sm7 := sm6.trans so7
            have d7 := upd_same (H := J6) (a := u7) (o := .lst ([V.str w1, V.str w0, V.str w2, V.str w3, V.str w1, V.str w2] ++ [V.str w5, V.str w4]))
            generalize upd J6 u7 (.lst ([V.str w1, V.str w0, V.str w2, V.str w3, V.str w1, V.str w2] ++ [V.str w5, V.str w4])) = J7 at sm7 d7  ⊢
            clear so7 hu7
            clear d5
            clear d6
            change J7 u7 = some (.lst [V.str w1, V.str w0, V.str w2, V.str w3, V.str w1, V.str w2, V.str w5, V.str w4]) at d7
            walk_at "rd"
            refine ⟨(), u7, _, _, _, _, _, _, _, _, rfl, d7, fun x hx => ?_, fun H' s => ?_⟩
            · simp only [List.mem_cons, List.not_mem_nil, or_false] at hx
              rcases hx with rfl | rfl | rfl | rfl | rfl | rfl | rfl | rfl
              · exact word_thing i1
              · exact word_thing i0
              · exact word_thing i2
              · exact word_thing i3
              · exact word_thing i1
              · exact word_thing i2
              · exact word_thing i5
              · exact word_thing i4
            · unfold outT
              rw [badV_no (xs := [V.str w1, V.str w0, V.str w2, V.str w3, V.str w1, V.str w2, V.str w5, V.str w4]) (fun x hx => ?_)]
              · intro zs ez wz
                obtain rfl : [w1, w0, w2, w3, w1, w2, w5, w4] = zs := str_inj (xs := [w1, w0, w2, w3, w1, w2, w5, w4]) ez
                rw [if_neg (by have := six_few WW; have := congrArg List.length this; rw [sortT_len] at this; rw [this]; show ¬ (6 < 6); omega)]
                exact fun H2 v2 s2 r2 => q H2 v2 ((sm7.trans s).trans s2) r2
              · simp only [List.mem_cons, List.not_mem_nil, or_false] at hx
                rcases hx with rfl | rfl | rfl | rfl | rfl | rfl | rfl | rfl
                · exact i1.ok
                · exact i0.ok
                · exact i2.ok
                · exact i3.ok
                · exact i1.ok
                · exact i2.ok
                · exact i5.ok
                · exact i4.ok
          intro H27 q27 x27 s27 hq27 t27 pay
          have S27 := S26.keep s27
          clear hf26 hc26 kn26 s27 hq27 S26
          refine ⟨fun σ F => SW P0 H p q8 (w0 :: w1 :: w2 :: w3 :: w4 :: w5 :: w6 :: r) 150 F ∧ ∃ (u1 u2 u4 u5 u6 u7 u8 u9 u10 u11 u12 u13 u14 u15 u16 u17 : Option V), u2 = some (.ref p) ∧ σ = [some (.ref sa), u1, u2, some (.ref q8), u4, u5, u6, u7, u8, u9, u10, u11, u12, u13, u14, u15, u16, u17], ?_, ?_⟩
          obtain ⟨l27, rfl, y27⟩ := pay
          have hw27 := S27.hw
          walk_at "rd"
          intro q28 hq28
          have s28 := (Same.refl H27).new (o := .lst (cutV ((w0 :: w1 :: w2 :: w3 :: w4 :: w5 :: w6 :: r).map V.str) none (some 6))) hq28
          have b28 := upd_same (H := H27) (a := q28) (o := .lst (cutV ((w0 :: w1 :: w2 :: w3 :: w4 :: w5 :: w6 :: r).map V.str) none (some 6)))
          have S28 := S27.keep s28
          have t27 := s28 _ _ t27
          have y27 := s28 _ _ y27
          generalize upd H27 q28 (.lst (cutV ((w0 :: w1 :: w2 :: w3 :: w4 :: w5 :: w6 :: r).map V.str) none (some 6))) = H28 at S28 b28 t27 y27 ⊢
          clear s28 hq28 S27
          rw [show cutV ((w0 :: w1 :: w2 :: w3 :: w4 :: w5 :: w6 :: r).map V.str) none (some 6) = [V.str w0, V.str w1, V.str w2, V.str w3, V.str w4, V.str w5] from cut_to (k := 6)] at b28
          clear hw27
          walk_at "rd"
          intro q29 hq29
          have s29 := (Same.refl H28).new (o := .tup [V.str "rule", V.ref q28]) hq29
          have b29 := upd_same (H := H28) (a := q29) (o := .tup [V.str "rule", V.ref q28])
          have S29 := S28.keep s29
          have t27 := s29 _ _ t27
          have y27 := s29 _ _ y27
          have b28 := s29 _ _ b28
          generalize upd H28 q29 (.tup [V.str "rule", V.ref q28]) = H29 at S29 b29 t27 y27 b28 ⊢
          clear s29 hq29 S28
          have e29 : (Fm.tog (sortT (setT [w1, w0, w2, w3, w1, w2, w5, w4]))).recs = [w0, w1, w2, w3, w4, w5] := tog_recs.trans (six_few WW)
          refine ne_rule (f := .tog (sortT (setT [w1, w0, w2, w3, w1, w2, w5, w4]))) (g := .tog (sortT (setT [w1, w0, w2, w3, w1, w2, w5, w4]))) ⟨_, _, rfl, t27, l27, rfl, y27⟩ ⟨_, _, rfl, b29, q28, rfl, by rw [e29]; exact b28⟩ rfl (fun z hz => WW.iw z (by rw [e29] at hz; exact List.mem_of_mem_take (i := 6) hz)) ?_
          clear t27 y27 b28 b29 e29
          have SA : SW P0 H p q8 (w0 :: w1 :: w2 :: w3 :: w4 :: w5 :: w6 :: r) 150 H29 := ⟨S29.I, S29.hw, n8⟩
          clear S29
          refine ⟨false, rfl, ?_⟩
          refine iteF ?_
          exact ⟨SA, _, _, _, _, _, _, _, _, _, _, _, _, _, _, _, _, rfl, rfl⟩
          rintro σ H29 ⟨SA, u1, u2, u4, u5, u6, u7, u8, u9, u10, u11, u12, u13, u14, u15, u16, u17, rfl, rfl⟩
          obtain ⟨oA, hpA, hoA⟩ := SA.I.pool
          have hwA := SA.hw
          walk_at "rd"
          intro rB oB rB0 rB1 hB
          have SB := SA.draw (o' := oB) Kp.refl.set1 upd_same hB
          have hpB := upd_same (H := H29) (a := p) (o := oB)
          generalize upd H29 p oB = HB at SB hpB ⊢
          clear SA hwA hpA hoA
          walk_at "rd"
          intro rC oC rC0 rC1 hC
          have SC := SB.draw (o' := oC) Kp.refl.set1 upd_same hC
          generalize upd HB p oC = HC at SC ⊢
          clear SB hpB hB hC
          clear lr
          have hwC := SC.hw
          generalize (w0 :: w1 :: w2 :: w3 :: w4 :: w5 :: w6 :: r) = W at *
          have WLn := WW.len
          obtain ⟨mB, rfl⟩ : ∃ m : Nat, rB = (m : Int) := ⟨rB.toNat, by omega⟩
          obtain ⟨mC, rfl⟩ : ∃ m : Nat, rC = (m : Int) := ⟨rC.toNat, by omega⟩
          obtain ⟨z1, r1, x1, x2, x3, x4, x5, x6⟩ := run_ex WW 0 (mB + 1) (by omega) (by omega) (by omega)
          walk_at "rd"
          intro qD hqD
          have sD := (Same.refl HC).new (o := .lst (cutV (W.map V.str) none (some (1 + (mB : Int))))) hqD
          have bD := upd_same (H := HC) (a := qD) (o := .lst (cutV (W.map V.str) none (some (1 + (mB : Int)))))
          have SD := SC.keep sD
          generalize upd HC qD _ = HD at SD bD ⊢
          clear sD hqD SC hwC
          rw [show (1 + (mB : Int)) = ((mB + 1 : Nat) : Int) by omega, cut_to, ← List.map_take, show W.take (mB + 1) = z1 :: r1 from x1] at bD
          refine ⟨(), qD, z1, r1, rfl, bD, x2, x3, fun HE vE sE ruE => ?_⟩
          have SE := SD.keep sE
          clear SD sE bD
          obtain ⟨oE, hpE, hoE⟩ := SE.I.pool
          walk_at "rd"
          intro rF oF rF0 rF1 hF
          have ruF := ruE.im (SE.I.im (H' := upd HE p oF) Kp.refl.set1)
          have SF := SE.draw (o' := oF) Kp.refl.set1 upd_same hF
          generalize upd HE p oF = HF at SF ruF ⊢
          clear SE ruE hpE hoE hF
          walk_at "rd"
          intro qG hqG
          have sG := (Same.refl HF).new (o := .tup [vE, V.int (1 + rF)]) hqG
          have bG := upd_same (H := HF) (a := qG) (o := .tup [vE, V.int (1 + rF)])
          have SG := SF.keep sG
          have ruF := ruF.im sG.im
          refine ⟨qG, _, rfl, SqT.of bG, rfl, ?_⟩
          generalize upd HF qG (.tup [vE, V.int (1 + rF)]) = HG at SG bG ruF ⊢
          clear sG hqG SF
          obtain ⟨mF, rfl⟩ : ∃ m : Nat, rF = (m : Int) := ⟨rF.toNat, by omega⟩
          obtain ⟨z2, r2, y1, y2, y3, y4, y5, y6⟩ := run_ex WW mC (mC + (mF + 1)) (by omega) (by omega) (by omega)
          have hwG := SG.hw
          clear bG
          walk_at "rd"
          intro qH hqH
          have sH := (Same.refl HG).new (o := .lst (cutV (W.map V.str) (some (mC : Int)) (some ((mC : Int) + (1 + (mF : Int)))))) hqH
          have bH := upd_same (H := HG) (a := qH) (o := .lst (cutV (W.map V.str) (some (mC : Int)) (some ((mC : Int) + (1 + (mF : Int))))))
          have SH := SG.keep sH
          have ruF := ruF.im sH.im
          generalize upd HG qH (.lst (cutV (W.map V.str) (some (mC : Int)) (some ((mC : Int) + (1 + (mF : Int)))))) = HH at SH bH ruF ⊢
          clear sH hqH SG
          rw [show ((mC : Int) + (1 + (mF : Int))) = ((mC + (mF + 1) : Nat) : Int) by omega, cut_ft, ← List.map_take, ← List.map_drop, y1] at bH
          clear hwG
          refine ⟨(), qH, z2, r2, rfl, bH, y2, y3, fun HI vI sI ruI => ?_⟩
          have ruF := ruF.im sI.im
          have SI := SH.keep sI
          clear SH sI bH
          generalize conjF z1 r1 = f1 at ruF x4 x5 x6
          generalize conjF z2 r2 = f2 at ruI y4 y5 y6
          have iw1 : ∀ z ∈ f1.recs, IsWord z := fun z hz => by rw [x4, x1] at hz; exact x3 z hz
          have iw2 : ∀ z ∈ f2.recs, IsWord z := fun z hz => by rw [y4, y1] at hz; exact y3 z hz
          have l1 : f1.recs.length ≤ 6 := by rw [x4, x1, List.length_cons]; omega
          have l2 : f2.recs.length ≤ 6 := by rw [y4, y1, List.length_cons]; omega
          clear x1 x2 x3 y1 y2 y3 y4
          have rec1 : f1.recs = W.take (mB + 1) := x4
          have d1 : f1.dep ≤ 5 := x5
          have d2 : f2.dep ≤ 5 := y5
          have a1 : asc f1.txt := x6
          have a2 : asc f2.txt := y6
          obtain ⟨pE, dE, xE, rfl, hE, _, _⟩ := id ruF
          obtain ⟨pI, dI, xI, rfl, hI, _, _⟩ := id ruI
          obtain ⟨c18, SI⟩ : ∃ c, SW P0 H p q8 W c HI := ⟨_, SI⟩
          refine ⟨fun σ F => ∃ (qN : Addr) (u1 u2 u4 u5 u6 u7 u9 u11 u14 u15 u16 u17 : Option V), SW P0 H p q8 W c18 F ∧ RuAt a F f1 (.ref pE) ∧ RuAt a F f2 (.ref pI) ∧ F qN = some (.lst ((sortT (setT (f1.recs ++ f2.recs))).map V.str)) ∧ σ = [some (.ref sa), u1, u2, some (.ref q8), u4, u5, u6, u7, some (.int (1 + (mB : Int))), u9, some (.ref pE), u11, some (.ref pI), some (.ref qN), u14, u15, u16, u17], ?_, ?_⟩
          walk_at "rd"
          refine ⟨f1, _, rfl, ruF, by omega, fun HJ qJ sJ bJ _ => ?_⟩
          have SJ := SI.keep sJ
          have hE := sJ _ _ hE
          have hI := sJ _ _ hI
          have ruF := ruF.im sJ.im
          have ruI := ruI.im sJ.im
          clear sJ SI
          walk_at "rd"
          refine ⟨f2, _, rfl, ruI, by omega, fun HK qK sK bK _ => ?_⟩
          have SK := SJ.keep sK
          have hE := sK _ _ hE
          have hI := sK _ _ hI
          have bJ := sK _ _ bJ
          have ruF := ruF.im sK.im
          have ruI := ruI.im sK.im
          clear sK SJ
          walk_at "rd"
          refine ⟨by rw [List.length_map, List.length_map, sizeLine_eq]; omega, ?_⟩
          intro qL hqL
          have sL := (Same.refl HK).new (o := .lst (f1.recs.map V.str ++ f2.recs.map V.str)) hqL
          have bL := upd_same (H := HK) (a := qL) (o := .lst (f1.recs.map V.str ++ f2.recs.map V.str))
          have SL := SK.keep sL
          have hE := sL _ _ hE
          have hI := sL _ _ hI
          have ruF := ruF.im sL.im
          have ruI := ruI.im sL.im
          generalize upd HK qL (.lst (f1.recs.map V.str ++ f2.recs.map V.str)) = HL at SL bL hE hI ruF ruI ⊢
          clear sL hqL SK
          rw [← List.map_append] at bL
          clear bJ bK
          walk_at "rd"
          refine ⟨by rw [List.length_append]; have : scanBound = 4096 := rfl; omega, ?_⟩
          intro qM hqM
          have sM := (Same.refl HL).new (o := TSO w qM (setT (f1.recs ++ f2.recs))) hqM
          have bM := upd_same (H := HL) (a := qM) (o := TSO w qM (setT (f1.recs ++ f2.recs)))
          have SM := SL.keep sM
          have hE := sM _ _ hE
          have hI := sM _ _ hI
          have ruF := ruF.im sM.im
          have ruI := ruI.im sM.im
          generalize upd HL qM (TSO w qM (setT (f1.recs ++ f2.recs))) = HM at SM bM hE hI ruF ruI ⊢
          clear sM hqM SL
          clear bL
          walk_at "rd"
          intro qN hqN
          have sN := (Same.refl HM).new (o := .lst ((sortT (setT (f1.recs ++ f2.recs))).map V.str)) hqN
          have bN := upd_same (H := HM) (a := qN) (o := .lst ((sortT (setT (f1.recs ++ f2.recs))).map V.str))
          have SN := SM.keep sN
          have hE := sN _ _ hE
          have hI := sN _ _ hI
          have ruF := ruF.im sN.im
          have ruI := ruI.im sN.im
          generalize upd HM qN (.lst ((sortT (setT (f1.recs ++ f2.recs))).map V.str)) = HN at SN bN hE hI ruF ruI ⊢
          clear sN hqN SM
          clear bM
          exact ⟨qN, _, _, _, _, _, _, _, _, _, _, _, _, SN, ruF, ruI, bN, rfl⟩
          clear SI ruF ruI hE hI
          rintro σ HN ⟨qN, u1, u2, u4, u5, u6, u7, u9, u11, u14, u15, u16, u17, SN, ruF, ruI, bN, rfl⟩
          obtain ⟨pE_, dE, xE, eE, hE, _, _⟩ := id ruF
          cases eE
          obtain ⟨pI_, dI, xI, eI, hI, _, _⟩ := id ruI
          cases eI
          walk_at "rd"
          refine due_if (f := f1) (g := f2) rfl bN (decide_eq_decide.mpr (by rw [List.length_map, sortT_len]; omega)) (fun qP HP sP tP => ?_)
          have SP := SN.keep sP
          have hE := sP _ _ hE
          have hI := sP _ _ hI
          have ruF := ruF.im sP.im
          have ruI := ruI.im sP.im
          clear sP SN
          clear bN
          refine ⟨fun σ F => ∃ (qU qQ qR : Addr) (u1 u2 u4 u5 u6 u7 u9 u11 u16 u17 : Option V), SW P0 H p q8 W c18 F ∧ RuAt a F f1 (.ref pE) ∧ RuAt a F f2 (.ref pI) ∧ ToldO F (.ref qP) (ocB "and" f1 f2) ∧ F qQ = some (.lst (f1.recs.map V.str)) ∧ F qR = some (.lst (f2.recs.map V.str)) ∧ F qU = some (.lst [V.ref qQ, V.ref qR, V.str f1.txt, V.str f2.txt]) ∧ σ = [some (.ref sa), u1, u2, some (.ref q8), u4, u5, u6, u7, some (.int (1 + (mB : Int))), u9, some (.ref pE), u11, some (.ref pI), some (.ref qN), some (.ref qP), some (.ref qU), u16, u17], ?_, ?_⟩
          walk_at "rd"
          refine ⟨f1, _, rfl, ruF, by omega, fun HQ qQ sQ bQ _ => ?_⟩
          have tP := tP.et (.of sQ)
          have SQ := SP.keep sQ
          have hE := sQ _ _ hE
          have hI := sQ _ _ hI
          have ruF := ruF.im sQ.im
          have ruI := ruI.im sQ.im
          clear sQ SP
          walk_at "rd"
          refine ⟨f2, _, rfl, ruI, by omega, fun HR qR sR bR _ => ?_⟩
          have tP := tP.et (.of sR)
          have SR := SQ.keep sR
          have hE := sR _ _ hE
          have hI := sR _ _ hI
          have bQ := sR _ _ bQ
          have ruF := ruF.im sR.im
          have ruI := ruI.im sR.im
          clear sR SQ
          walk_at "rd"
          refine ⟨f1, _, rfl, ruF, by omega, by omega, fun HS sS => ⟨⟨_, rfl⟩, ?_⟩⟩
          have tP := tP.et (.of sS)
          have SS := SR.keep sS
          have hE := sS _ _ hE
          have hI := sS _ _ hI
          have bQ := sS _ _ bQ
          have bR := sS _ _ bR
          have ruF := ruF.im sS.im
          have ruI := ruI.im sS.im
          clear sS SR
          walk_at "rd"
          refine ⟨f2, _, rfl, ruI, by omega, by omega, fun HT sT => ⟨⟨_, rfl⟩, ?_⟩⟩
          have tP := tP.et (.of sT)
          have ST := SS.keep sT
          have hE := sT _ _ hE
          have hI := sT _ _ hI
          have bQ := sT _ _ bQ
          have bR := sT _ _ bR
          have ruF := ruF.im sT.im
          have ruI := ruI.im sT.im
          clear sT SS
          walk_at "rd"
          intro qU hqU
          have sU := (Same.refl HT).new (o := .lst [V.ref qQ, V.ref qR, V.str f1.txt, V.str f2.txt]) hqU
          have bU := upd_same (H := HT) (a := qU) (o := .lst [V.ref qQ, V.ref qR, V.str f1.txt, V.str f2.txt])
          have SU := ST.keep sU
          have hE := sU _ _ hE
          have hI := sU _ _ hI
          have bQ := sU _ _ bQ
          have bR := sU _ _ bR
          have ruF := ruF.im sU.im
          have ruI := ruI.im sU.im
          have tP := tP.et (.of sU)
          generalize upd HT qU (.lst [V.ref qQ, V.ref qR, V.str f1.txt, V.str f2.txt]) = HU at SU bU tP hE hI bQ bR ruF ruI ⊢
          clear sU hqU ST
          exact ⟨qU, qQ, qR, _, _, _, _, _, _, _, _, _, _, SU, ruF, ruI, tP, bQ, bR, bU, rfl⟩
          clear SP ruF ruI hE hI tP
          rintro σ HU ⟨qU, qQ, qR, u1, u2, u4, u5, u6, u7, u9, u11, u16, u17, SU, ruF, ruI, tP, bQ, bR, bU, rfl⟩
          refine And.intro SU.I.tb ?_
          intro fV cV HV eV nV tV zV hfV hcV
          have SV := SU.lam eV nV tV
          have EV : Et HU HV := ⟨eV, nV⟩
          clear eV nV tV zV
          walk_at "rd"
          intro qW hqW
          have sW := (Same.refl HV).new (o := .lst [V.ref fV]) hqW
          have bW := upd_same (H := HV) (a := qW) (o := .lst [V.ref fV])
          have SW' := SV.keep sW
          have hfW := sW _ _ hfV
          have hcW := sW _ _ hcV
          have EW := EV.trans (.of sW)
          have fW : HU qW = none := EV.fr _ hqW
          have f0 : H qW = none := SV.I.et.fr _ hqW
          have nWp : qW ≠ p := by
            obtain ⟨o, h1, h2⟩ := SV.I.pool
            exact Ne.symm (ne_of_none h1 hqW)
          have nW8 : q8 ≠ qW := ne_of_none SV.hw hqW
          generalize upd HV qW (.lst [V.ref fV]) = HW at SW' bW hfW hcW EW ⊢
          clear SV EV hqW sW hfV hcV
          have tbW := SW'.I.tb
          walk_at "rd"
          intro fX cX HX eX nX tX zX hfX hcX
          have SX := SW'.lam eX nX tX
          have EX : Et HW HX := ⟨eX, nX⟩
          have hfW := EX.lam hfW
          have hcW := EX.code hcW
          have bW := EX.lst bW
          have EW := EW.trans EX
          clear SW' eX nX tX zX tbW EX
          have SY := SX.acc (ys := [V.ref fV] ++ [V.ref fX]) f0 bW nWp nW8
          have EY := EW.acc (ys := [V.ref fV] ++ [V.ref fX]) fW bW
          have hfW := lam_acc (ys := [V.ref fV] ++ [V.ref fX]) bW hfW
          have hcW := code_acc (ys := [V.ref fV] ++ [V.ref fX]) bW hcW
          have hfX := lam_acc (ys := [V.ref fV] ++ [V.ref fX]) bW hfX
          have hcX := code_acc (ys := [V.ref fV] ++ [V.ref fX]) bW hcX
          have bY := upd_same (H := HX) (a := qW) (o := .lst ([V.ref fV] ++ [V.ref fX]))
          walk_at "rd"
          generalize upd HX qW (.lst ([V.ref fV] ++ [V.ref fX])) = HY at SY EY hfW hcW hfX hcX bY ⊢
          clear SX EW bW
          have tbY := SY.I.tb
          walk_at "rd"
          intro fZ cZ HZ eZ nZ tZ zZ hfZ hcZ
          have SZ := SY.lam eZ nZ tZ
          have EZ : Et HY HZ := ⟨eZ, nZ⟩
          have hfW := EZ.lam hfW
          have hcW := EZ.code hcW
          have hfX := EZ.lam hfX
          have hcX := EZ.code hcX
          have bY := EZ.lst bY
          have EY := EY.trans EZ
          clear SY eZ nZ tZ zZ tbY EZ
          refine ⟨qW, _, _, rfl, rfl, bY, by rw [sizeLine_eq]; show 2 < _; omega, ?_⟩
          have SA := SZ.acc (ys := [V.ref fV] ++ [V.ref fX] ++ [V.ref fZ]) f0 bY nWp nW8
          have EA := EY.acc (ys := [V.ref fV] ++ [V.ref fX] ++ [V.ref fZ]) fW bY
          have hfW := lam_acc (ys := [V.ref fV] ++ [V.ref fX] ++ [V.ref fZ]) bY hfW
          have hcW := code_acc (ys := [V.ref fV] ++ [V.ref fX] ++ [V.ref fZ]) bY hcW
          have hfX := lam_acc (ys := [V.ref fV] ++ [V.ref fX] ++ [V.ref fZ]) bY hfX
          have hcX := code_acc (ys := [V.ref fV] ++ [V.ref fX] ++ [V.ref fZ]) bY hcX
          have hfZ := lam_acc (ys := [V.ref fV] ++ [V.ref fX] ++ [V.ref fZ]) bY hfZ
          have hcZ := code_acc (ys := [V.ref fV] ++ [V.ref fX] ++ [V.ref fZ]) bY hcZ
          have bA := upd_same (H := HZ) (a := qW) (o := .lst ([V.ref fV] ++ [V.ref fX] ++ [V.ref fZ]))
          generalize upd HZ qW (.lst ([V.ref fV] ++ [V.ref fX] ++ [V.ref fZ])) = HA at SA EA hfW hcW hfX hcX hfZ hcZ bA ⊢
          change HA qW = some (.lst [V.ref fV, V.ref fX, V.ref fZ]) at bA
          clear SZ EY bY
          refine ⟨fun σ F => SW P0 H p q8 W c18 F ∧ Et HU F ∧ ∃ (u16 u17 : Option V), σ = [some (.ref sa), u1, u2, some (.ref q8), u4, u5, u6, u7, some (.int (1 + (mB : Int))), u9, some (.ref pE), u11, some (.ref pI), some (.ref qN), some (.ref qP), some (.ref qU), u16, u17], ?_, ?_⟩
          walk_at "rd"
          have ruA : RuAt a HA f1 (.ref pE) := ruF.im EA.im
          have riA : RuAt a HA f2 (.ref pI) := ruI.im EA.im
          refine ⟨⟨_, SqL.of bA⟩, ?_⟩
          refine for_list (xs := [V.ref fV, V.ref fX, V.ref fZ]) (fun i σ F => Same HA F ∧ ∃ (u17 : Option V), σ = [some (.ref sa), u1, u2, some (.ref q8), u4, u5, u6, u7, some (.int (1 + (mB : Int))), u9, some (.ref pE), u11, some (.ref pI), some (.ref qN), some (.ref qP), some (.ref qU), some (.ref qW), u17]) ?_ ?_ ?_ ?_
          · exact ⟨Same.refl _, _, rfl⟩
          · rintro i σ F _ ⟨sF, _⟩
            exact SqL.of (sF _ _ bA)
          · rintro i u σ F hu ⟨sF, u17, rfl⟩
            have hi : i < 3 := (List.getElem?_eq_some_iff.mp hu).1
            have hc : i = 0 ∨ i = 1 ∨ i = 2 := by omega
            rcases hc with rfl | rfl | rfl
            · cases hu
              walk_at "rd"
              intro h kn
              refine made_lam (N := ["_law_one", "_law_other"]) (ws := [some (.ref pE), some (.ref pI)]) (Φ := fun H => RuAt a H f1 (.ref pE) ∧ RuAt a H f2 (.ref pI)) (oc := ocB "and" f1 f2) (sF _ _ hfW) (sF _ _ hcW) (NdefX.nscope_by (by dsimp only [lamF]; decide +kernel)) (kn.own _ _ [10, 12] (NdefX.Caps.made kn.ok (NdefX.ndef_free (sc := defScope s_law) (fr := ["_law_one", "_law_other"]) (by decide +kernel)) (by decide +kernel) rfl) (fun _ _ _ => rfl)) (fun pm ctv => rfl) (fun A outer s H Q E hr th q => ⟨_, (pe_op (op_own (T.m_RuleU_andU.at_) (T.m_RuleU_andU.fn) T.sf_Rule G_RuleU_andU (hr.mono (by decide)) T.b_RuleU_andU (passes_call (takes_of rfl rfl rfl rfl) (fun _ _ _ _ h => h))) (pv 0) (pv 1)), ?_⟩) ⟨ruA.im sF.im, riA.im sF.im⟩ (ocB_dep d1 d2) ?_
              · obtain ⟨g1, g2⟩ := th
                have q := ocB_q q
                obtain ⟨x1, y1, v1, z1, h1, _, _⟩ := id g1
                obtain ⟨x2, y2, v2, z2, h2, _, _⟩ := id g2
                cases z1
                cases z2
                walk_at "rd"
                refine ⟨f1, f2, _, _, rfl, g1, g2, by omega, by omega, ?_⟩
                split
                · rename_i hl; rw [if_pos hl] at q; exact q
                · rename_i hl; rw [if_neg hl] at q
                  intro H4 v4 s4 r4
                  exact ⟨by obtain ⟨p4, _, _, e, _⟩ := r4; exact ⟨p4, e⟩, q H4 v4 s4 r4⟩
              intro G q x sG hq t pay
              have sG := sF.trans sG
              walk_at "rd"
              refine ne_due ⟨q, x, rfl, t, pay⟩ ((tP.et EA).et (.of sG)) iw1 iw2 ?_
              refine ⟨false, rfl, ?_⟩
              refine iteF ?_
              exact ⟨sG, _, rfl⟩
            · cases hu
              walk_at "rd"
              intro h kn
              refine made_lam (N := ["_law_one", "_law_other"]) (ws := [some (.ref pE), some (.ref pI)]) (Φ := fun H => RuAt a H f1 (.ref pE) ∧ RuAt a H f2 (.ref pI)) (oc := ocB "or" f1 f2) (sF _ _ hfX) (sF _ _ hcX) (NdefX.nscope_by (by dsimp only [lamF]; decide +kernel)) (kn.own _ _ [10, 12] (NdefX.Caps.made kn.ok (NdefX.ndef_free (sc := defScope s_law) (fr := ["_law_one", "_law_other"]) (by decide +kernel)) (by decide +kernel) rfl) (fun _ _ _ => rfl)) (fun pm ctv => rfl) (fun A outer s H Q E hr th q => ⟨_, (pe_op (op_own (T.m_RuleU_orU.at_) (T.m_RuleU_orU.fn) T.sf_Rule G_RuleU_orU (hr.mono (by decide)) T.b_RuleU_orU (passes_call (takes_of rfl rfl rfl rfl) (fun _ _ _ _ h => h))) (pv 0) (pv 1)), ?_⟩) ⟨ruA.im sF.im, riA.im sF.im⟩ (ocB_dep d1 d2) ?_
              · obtain ⟨g1, g2⟩ := th
                have q := ocB_q q
                obtain ⟨x1, y1, v1, z1, h1, _, _⟩ := id g1
                obtain ⟨x2, y2, v2, z2, h2, _, _⟩ := id g2
                cases z1
                cases z2
                walk_at "rd"
                refine ⟨f1, f2, _, _, rfl, g1, g2, by omega, by omega, ?_⟩
                split
                · rename_i hl; rw [if_pos hl] at q; exact q
                · rename_i hl; rw [if_neg hl] at q
                  intro H4 v4 s4 r4
                  exact ⟨by obtain ⟨p4, _, _, e, _⟩ := r4; exact ⟨p4, e⟩, q H4 v4 s4 r4⟩
              intro G q x sG hq t pay
              have sG := sF.trans sG
              walk_at "rd"
              refine ne_due ⟨q, x, rfl, t, pay⟩ ((tP.et EA).et (.of sG)) iw1 iw2 ?_
              refine ⟨false, rfl, ?_⟩
              refine iteF ?_
              exact ⟨sG, _, rfl⟩
            · cases hu
              walk_at "rd"
              intro h kn
              refine made_lam (N := ["_law_one", "_law_other"]) (ws := [some (.ref pE), some (.ref pI)]) (Φ := fun H => RuAt a H f1 (.ref pE) ∧ RuAt a H f2 (.ref pI)) (oc := ocB "needs" f1 f2) (sF _ _ hfZ) (sF _ _ hcZ) (NdefX.nscope_by (by dsimp only [lamF]; decide +kernel)) (kn.own _ _ [10, 12] (NdefX.Caps.made kn.ok (NdefX.ndef_free (sc := defScope s_law) (fr := ["_law_one", "_law_other"]) (by decide +kernel)) (by decide +kernel) rfl) (fun _ _ _ => rfl)) (fun pm ctv => rfl) (fun A outer s H Q E hr th q => ⟨_, (pe_op (op_own (T.m_RuleU_rshiftU.at_) (T.m_RuleU_rshiftU.fn) T.sf_Rule G_RuleU_rshiftU (hr.mono (by decide)) T.b_RuleU_rshiftU (passes_call (takes_of rfl rfl rfl rfl) (fun _ _ _ _ h => h))) (pv 0) (pv 1)), ?_⟩) ⟨ruA.im sF.im, riA.im sF.im⟩ (ocB_dep d1 d2) ?_
              · obtain ⟨g1, g2⟩ := th
                have q := ocB_q q
                obtain ⟨x1, y1, v1, z1, h1, _, _⟩ := id g1
                obtain ⟨x2, y2, v2, z2, h2, _, _⟩ := id g2
                cases z1
                cases z2
                walk_at "rd"
                refine ⟨f1, f2, _, _, rfl, g1, g2, by omega, by omega, ?_⟩
                split
                · rename_i hl; rw [if_pos hl] at q; exact q
                · rename_i hl; rw [if_neg hl] at q
                  intro H4 v4 s4 r4
                  exact ⟨by obtain ⟨p4, _, _, e, _⟩ := r4; exact ⟨p4, e⟩, q H4 v4 s4 r4⟩
              intro G q x sG hq t pay
              have sG := sF.trans sG
              walk_at "rd"
              refine ne_due ⟨q, x, rfl, t, pay⟩ ((tP.et EA).et (.of sG)) iw1 iw2 ?_
              refine ⟨false, rfl, ?_⟩
              refine iteF ?_
              exact ⟨sG, _, rfl⟩
          · rintro σ F ⟨sF, u17, rfl⟩
            exact ⟨SA.keep sF, EA.trans (.of sF), _, _, rfl⟩
          clear hfW hcW hfX hcX hfZ hcZ bA SA EA
          rintro σ HB ⟨SB, EB, u16, u17, rfl⟩
          have ruB := ruF.im EB.im
          have riB := ruI.im EB.im
          have bQ := EB.lst bQ
          have bR := EB.lst bR
          have bU := EB.lst bU
          clear SU ruF ruI tP EB
          obtain ⟨pE_, dE, xE, eE, hE, _, _⟩ := id ruB
          cases eE
          obtain ⟨pI_, dI, xI, eI, hI, _, _⟩ := id riB
          cases eI
          walk_at "rd"
          refine ⟨f1, _, rfl, ruB, by omega, fun HC q1 s1 b1 _ => ?_⟩
          have SC := SB.keep s1
          have ruB := ruB.im s1.im
          have riB := riB.im s1.im
          have hE := s1 _ _ hE
          have hI := s1 _ _ hI
          have bQ := s1 _ _ bQ
          have bR := s1 _ _ bR
          have bU := s1 _ _ bU
          clear SB s1
          walk_at "rd"
          refine ⟨f2, _, rfl, riB, by omega, fun HD q2 s1 b2 _ => ?_⟩
          have SD := SC.keep s1
          have ruB := ruB.im s1.im
          have riB := riB.im s1.im
          have hE := s1 _ _ hE
          have hI := s1 _ _ hI
          have bQ := s1 _ _ bQ
          have bR := s1 _ _ bR
          have bU := s1 _ _ bU
          have b1 := s1 _ _ b1
          clear SC s1
          walk_at "rd"
          refine ⟨f1, _, rfl, ruB, by omega, by omega, fun HE s1 => ⟨⟨_, rfl⟩, ?_⟩⟩
          have SE := SD.keep s1
          have ruB := ruB.im s1.im
          have riB := riB.im s1.im
          have hE := s1 _ _ hE
          have hI := s1 _ _ hI
          have bQ := s1 _ _ bQ
          have bR := s1 _ _ bR
          have bU := s1 _ _ bU
          have b1 := s1 _ _ b1
          have b2 := s1 _ _ b2
          clear SD s1
          walk_at "rd"
          refine ⟨f2, _, rfl, riB, by omega, by omega, fun HF s1 => ⟨⟨_, rfl⟩, ?_⟩⟩
          have SF := SE.keep s1
          have ruB := ruB.im s1.im
          have hE := s1 _ _ hE
          have bQ := s1 _ _ bQ
          have bR := s1 _ _ bR
          have bU := s1 _ _ bU
          have b1 := s1 _ _ b1
          have b2 := s1 _ _ b2
          clear SE s1 riB hI
          walk_at "rd"
          intro q3 hq3
          have s1 := (Same.refl HF).new (o := .lst [V.ref q1, V.ref q2, V.str f1.txt, V.str f2.txt]) hq3
          have b3 := upd_same (H := HF) (a := q3) (o := .lst [V.ref q1, V.ref q2, V.str f1.txt, V.str f2.txt])
          have SG := SF.keep s1
          have ruB := ruB.im s1.im
          have hE := s1 _ _ hE
          have bQ := s1 _ _ bQ
          have bR := s1 _ _ bR
          have bU := s1 _ _ bU
          have b1 := s1 _ _ b1
          have b2 := s1 _ _ b2
          generalize upd HF q3 (.lst [V.ref q1, V.ref q2, V.str f1.txt, V.str f2.txt]) = HG at SG ruB hE bQ bR bU b1 b2 b3 ⊢
          clear SF s1 hq3
          walk_at "rd"
          refine ne_before b3 b1 b2 bU bQ bR iw1 iw2 a1 a2 ?_
          refine ⟨false, rfl, ?_⟩
          refine iteF ?_
          clear bQ bR bU b1 b2 b3
          walk_at "rd"
          refine ⟨f1, _, rfl, ruB, fun HI r1 s1 ru1 => ?_⟩
          have SI := SG.keep s1
          obtain ⟨p1, dx1, x1, rfl, h1, _, _⟩ := id ru1
          clear SG s1 ruB hE
          walk_at "rd"
          refine ⟨.nt f1, _, rfl, ru1, by show f1.dep + 1 < 8; omega, fun HJ q1 s1 b1 _ => ?_⟩
          have SJ := SI.keep s1
          have hwJ := SJ.hw
          clear SI s1
          walk_at "rd"
          intro q2 hq2
          have s1 := (Same.refl HJ).new (o := .lst (cutV (W.map V.str) none (some (1 + (mB : Int))))) hq2
          have b2 := upd_same (H := HJ) (a := q2) (o := .lst (cutV (W.map V.str) none (some (1 + (mB : Int)))))
          have SK := SJ.keep s1
          have b1 := s1 _ _ b1
          generalize upd HJ q2 (.lst (cutV (W.map V.str) none (some (1 + (mB : Int))))) = HK at SK b1 b2 ⊢
          rw [show (1 + (mB : Int)) = ((mB + 1 : Nat) : Int) by omega, cut_to, ← List.map_take, ← rec1] at b2
          clear SJ s1 hwJ
          have er : (Fm.nt f1).recs = f1.recs := by
            show sortT (setT f1.recs) = f1.recs
            rw [rec1]
            exact run_srt WW 0 (mB + 1)
          rw [er] at b1
          refine ne_strs (l := f1.recs) b1 b2 iw1 ?_
          refine ⟨false, rfl, ?_⟩
          refine iteF ?_
          exact ⟨by omega, SK.I.et, SK.I.tb, _, _, _, _, _, _, _, _, _, _, _, _, _, _, _, _, _, rfl⟩
    · rintro σ H2 ⟨_, s1, tb1, v1, v2, v3, v4, v5, v6, v7, v8, v9, v10, v11, v12, v13, v14, v15, v16, v17, rfl⟩
      walk_at "rd"
      exact k _

end
theorem all_mk {w : World} {K : PySem.W.Frag} {h : Heap} {mg : Str → Option Value} {fa : Addr} (X : K.In h) (G : h.Ns mainGlobals mg) (hfa : mg "law" = some (.ref fa))
    {f1 : Addr}
    {od3 an3 : Option Addr} {sl3 : Array (Option Value)} {oc3 kV3 dc3 pm3 cd3 ct3 : Value}
    {C5 : Addr}
    {f7 : Addr} {nm8 qn8 : Str} {N8 : Addr} {bs8 bm8 : List Value} {sn8 : List Str} {sub8 : List Value} {ab8 : Bool} {col8 : Option Bool} {dd8 : Option Addr} {k08 k18 k28 k38 k58 : Option Value}
    {oc8 : Value} {od8 : Option Addr} {doc8 pm8 : Value} {an8 : Option Addr} {cda8 cc8 : Addr} {ct8 : Value} {osl8 : Array (Option Value)} {ccl8 : Value} {cdd8 : Option Addr} {vs8 : Array Value} {ccs8 : Array (Option Value)} {tf8 : Tok} {cl8 : Value} {cld8 : Option Addr} {csl8 : Array (Option Value)}
    {C30 : Addr}
    {f32 : Addr} {nm33 qn33 : Str} {N33 : Addr} {bs33 bm33 : List Value} {sn33 : List Str} {sub33 : List Value} {ab33 : Bool} {col33 : Option Bool} {dd33 : Option Addr} {k033 k133 k233 k333 k533 : Option Value}
    {oc33 : Value} {od33 : Option Addr} {doc33 pm33 : Value} {an33 : Option Addr} {cda33 cc33 : Addr} {ct33 : Value} {osl33 : Array (Option Value)} {ccl33 : Value} {cdd33 : Option Addr} {vs33 : Array Value} {ccs33 : Array (Option Value)} {tf33 : Tok} {cl33 : Value} {cld33 : Option Addr} {csl33 : Array (Option Value)}
    {t56 : Tok}
    {C57 : Addr}
    {f66 : Addr}
    {od71 an71 : Option Addr} {sl71 : Array (Option Value)} {oc71 kV71 dc71 pm71 cd71 ct71 : Value}
    {f72 p73 : Addr} {rs76 : List Value}
    {od77 an77 : Option Addr} {sl77 : Array (Option Value)} {oc77 kV77 dc77 pm77 cd77 ct77 : Value}
    {f78 p79 : Addr} {rs82 : List Value}
    {od83 an83 : Option Addr} {sl83 : Array (Option Value)} {oc83 kV83 dc83 pm83 cd83 ct83 : Value}
    {f84 : Addr}
    {od87 an87 : Option Addr} {sl87 : Array (Option Value)} {oc87 kV87 dc87 pm87 cd87 ct87 : Value}
    {f88 : Addr}
    {od91 an91 : Option Addr} {sl91 : Array (Option Value)} {oc91 kV91 dc91 pm91 cd91 ct91 : Value}
    {f92 : Addr}
    {od95 an95 : Option Addr} {sl95 : Array (Option Value)} {oc95 kV95 dc95 pm95 cd95 ct95 : Value}
    {f96 : Addr}
    {od99 an99 : Option Addr} {sl99 : Array (Option Value)} {oc99 kV99 dc99 pm99 cd99 ct99 : Value}
    {f100 : Addr}
    {od103 an103 : Option Addr} {sl103 : Array (Option Value)} {oc103 kV103 dc103 pm103 cd103 ct103 : Value}
    {f104 : Addr}
    {od107 an107 : Option Addr} {sl107 : Array (Option Value)} {oc107 kV107 dc107 pm107 cd107 ct107 : Value}
    {f109 : Addr}
    {od111 an111 : Option Addr} {sl111 : Array (Option Value)} {oc111 kV111 dc111 pm111 cd111 ct111 : Value}
    {f112 : Addr}
    {od114 an114 : Option Addr} {sl114 : Array (Option Value)} {oc114 kV114 dc114 pm114 cd114 ct114 : Value}
    {f115 : Addr}
    {od117 an117 : Option Addr} {sl117 : Array (Option Value)} {oc117 kV117 dc117 pm117 cd117 ct117 : Value}
    {f118 : Addr}
    {od120 an120 : Option Addr} {sl120 : Array (Option Value)} {oc120 kV120 dc120 pm120 cd120 ct120 : Value}
    {f121 : Addr}
    {od123 an123 : Option Addr} {sl123 : Array (Option Value)} {oc123 kV123 dc123 pm123 cd123 ct123 : Value}
    {f124 : Addr}
    {od126 an126 : Option Addr} {sl126 : Array (Option Value)} {oc126 kV126 dc126 pm126 cd126 ct126 : Value}
    {f127 : Addr}
    {od129 an129 : Option Addr} {sl129 : Array (Option Value)} {oc129 kV129 dc129 pm129 cd129 ct129 : Value}
    {f130 : Addr}
    {od132 an132 : Option Addr} {sl132 : Array (Option Value)} {oc132 kV132 dc132 pm132 cd132 ct132 : Value}
    {f133 : Addr}
    {od135 an135 : Option Addr} {sl135 : Array (Option Value)} {oc135 kV135 dc135 pm135 cd135 ct135 : Value}
    {f136 : Addr}
    {od138 an138 : Option Addr} {sl138 : Array (Option Value)} {oc138 kV138 dc138 pm138 cd138 ct138 : Value}
    {od139 an139 : Option Addr} {sl139 : Array (Option Value)} {oc139 kV139 dc139 pm139 cd139 ct139 : Value}
    {C151 : Addr}
    (a2 : PySem.W.nsIn K mainGlobals "is_word" = some (some (.ref f1)))
    (l3 : K.lookup f1 = some ⟨oc3, od3, .func (PySem.W.fnOf "is_word" "is_word" (defArgs s_is_word) (defBody s_is_word) (defScope s_is_word) .none kV3 dc3 pm3 an3 cd3 ct3), sl3⟩)
    (c3 : PySem.W.codeIn K cd3 "is_word" = true)
    (k3 : PySem.W.keepIn K (.ref f1) = true)
    (z4 : PySem.W.nsIn K cStatics "thirdparty.any" = some none)
    (a6 : PySem.W.nsIn K mainGlobals "BadWord" = some (some (.ref C5)))
    (e9 : K.lookup C5 = some (excClassObj nm8 qn8 C5 N8 bs8 bm8 true sn8 sub8 ab8 col8 dd8 k08 k18 k28 k38 k58 "ValueError.__new__"))
    (e10 : PySem.HandSPX.refsVE bm8 = true)
    (e11 : PySem.W.findIn K (.ref C5) "__setattr__" = some (some (.builtin "object.__setattr__")))
    (e12 : PySem.W.findIn K (.ref C5) "__getattribute__" = some (some (.builtin "BaseException.__getattribute__")))
    (e13 : PySem.W.findIn K (.ref C5) "__getattr__" = some none)
    (e14 : PySem.W.findIn K (.ref C5) "__init__" = some (some (.ref f7)))
    (e15 : PySem.W.typeIn K (.ref f7) = some (.type "function"))
    (e16 : PySem.W.keepIn K (.ref C5) = true)
    (e17 : PySem.W.subIn K (.ref C5) (.type "BaseException") = some true)
    (e18 : PySem.W.subIn K (.ref C5) (.type "ValueError") = some true)
    (e19 : PySem.W.typeIn K (.ref C5) = some (.type "type"))
    (e20 : PySem.W.hasDictIn K C5 = true)
    (e21 : PySem.W.ks_superIn K C5 C5 "__init__" = some (some (.builtin "ValueError.__init__")))
    (e22 : PySem.W.mroIn K C5 (.ref C5) = some true)
    (e23 : PySem.W.exmOne K (.ref C5) (.ref C5) = some true)
    (e24 : K.lookup f7 = some ⟨oc8, od8, .func (PySem.W.ksFn "__init__" "BadWord.__init__" (defArgs s_BadWordU_initU) (defBody s_BadWordU_initU) (defScope s_BadWordU_initU) .none .none doc8 pm8 an8 (.ref cda8) ct8 cc8), osl8⟩)
    (e25 : PySem.W.codeIn K (.ref cda8) "BadWord.__init__" = true)
    (e26 : K.lookup cda8 = some ⟨ccl8, cdd8, .fields vs8, ccs8⟩)
    (e27 : vs8[2]? = some (.str P.main.file tf8))
    (e28 : K.lookup cc8 = some ⟨cl8, cld8, .cell (some (.ref C5)), csl8⟩)
    (e29 : PySem.W.findIn K (.ref C5) "word" = some none)
    (a31 : PySem.W.nsIn K mainGlobals "TooMany" = some (some (.ref C30)))
    (e34 : K.lookup C30 = some (excClassObj nm33 qn33 C30 N33 bs33 bm33 true sn33 sub33 ab33 col33 dd33 k033 k133 k233 k333 k533 "ValueError.__new__"))
    (e35 : PySem.HandSPX.refsVE bm33 = true)
    (e36 : PySem.W.findIn K (.ref C30) "__setattr__" = some (some (.builtin "object.__setattr__")))
    (e37 : PySem.W.findIn K (.ref C30) "__getattribute__" = some (some (.builtin "BaseException.__getattribute__")))
    (e38 : PySem.W.findIn K (.ref C30) "__getattr__" = some none)
    (e39 : PySem.W.findIn K (.ref C30) "__init__" = some (some (.ref f32)))
    (e40 : PySem.W.typeIn K (.ref f32) = some (.type "function"))
    (e41 : PySem.W.keepIn K (.ref C30) = true)
    (e42 : PySem.W.subIn K (.ref C30) (.type "BaseException") = some true)
    (e43 : PySem.W.subIn K (.ref C30) (.type "ValueError") = some true)
    (e44 : PySem.W.typeIn K (.ref C30) = some (.type "type"))
    (e45 : PySem.W.hasDictIn K C30 = true)
    (e46 : PySem.W.ks_superIn K C30 C30 "__init__" = some (some (.builtin "ValueError.__init__")))
    (e47 : PySem.W.mroIn K C30 (.ref C30) = some true)
    (e48 : PySem.W.exmOne K (.ref C30) (.ref C30) = some true)
    (e49 : K.lookup f32 = some ⟨oc33, od33, .func (PySem.W.ksFn "__init__" "TooMany.__init__" (defArgs s_TooManyU_initU) (defBody s_TooManyU_initU) (defScope s_TooManyU_initU) .none .none doc33 pm33 an33 (.ref cda33) ct33 cc33), osl33⟩)
    (e50 : PySem.W.codeIn K (.ref cda33) "TooMany.__init__" = true)
    (e51 : K.lookup cda33 = some ⟨ccl33, cdd33, .fields vs33, ccs33⟩)
    (e52 : vs33[2]? = some (.str P.main.file tf33))
    (e53 : K.lookup cc33 = some ⟨cl33, cld33, .cell (some (.ref C30)), csl33⟩)
    (e54 : PySem.W.findIn K (.ref C30) "what" = some none)
    (z55 : PySem.W.nsIn K mainGlobals "MOST_RECORDS" = some (some (.int 6 t56)))
    (a58 : PySem.W.nsIn K mainGlobals "Rule" = some (some (.ref C57)))
    (r59 : PySem.W.readsIn K C57 (.type "type") = true)
    (s60 : PySem.W.specialIn K (.ref C57) "__getattribute__" = some (some (.builtin "type.__getattribute__")))
    (q61 : PySem.W.plainGet K C57 Str.empty = true)
    (q62 : PySem.W.hasDictIn K C57 = true)
    (q63 : PySem.W.plainOver K C57 = true)
    (q64 : PySem.W.findIn K (.ref C57) "__setattr__" = some (some (.builtin "object.__setattr__")))
    (z65 : PySem.W.findIn K (.ref C57) "form" = some none)
    (q67 : PySem.W.makesIn K C57 = true)
    (q68 : PySem.W.findIn K (.ref C57) "__init__" = some (some (.ref f66)))
    (q69 : PySem.W.isFn K (.ref f66) = true)
    (q70 : PySem.W.keepIn K (.ref C57) = true)
    (l71 : K.lookup f66 = some ⟨oc71, od71, .func (PySem.W.fnOf "__init__" "Rule.__init__" (defArgs s_RuleU_initU) (defBody s_RuleU_initU) (defScope s_RuleU_initU) .none kV71 dc71 pm71 an71 cd71 ct71), sl71⟩)
    (c71 : PySem.W.codeIn K cd71 "Rule.__init__" = true)
    (k71 : PySem.W.keepIn K (.ref f66) = true)
    (z74 : PySem.W.findCls K (.ref C57) (.type "type") "has" = some (.get (.builtin "staticmethod.__get__") (.ref p73) .none (.ref C57)))
    (r75 : PySem.W.recIn K p73 "staticmethod" = some (.ref f72 :: rs76))
    (l77 : K.lookup f72 = some ⟨oc77, od77, .func (PySem.W.fnOf "has" "Rule.has" (defArgs s_Rule_has) (defBody s_Rule_has) (defScope s_Rule_has) .none kV77 dc77 pm77 an77 cd77 ct77), sl77⟩)
    (c77 : PySem.W.codeIn K cd77 "Rule.has" = true)
    (k77 : PySem.W.keepIn K (.ref f72) = true)
    (z80 : PySem.W.findCls K (.ref C57) (.type "type") "together" = some (.get (.builtin "staticmethod.__get__") (.ref p79) .none (.ref C57)))
    (r81 : PySem.W.recIn K p79 "staticmethod" = some (.ref f78 :: rs82))
    (l83 : K.lookup f78 = some ⟨oc83, od83, .func (PySem.W.fnOf "together" "Rule.together" (defArgs s_Rule_together) (defBody s_Rule_together) (defScope s_Rule_together) .none kV83 dc83 pm83 an83 cd83 ct83), sl83⟩)
    (c83 : PySem.W.codeIn K cd83 "Rule.together" = true)
    (k83 : PySem.W.keepIn K (.ref f78) = true)
    (q85 : PySem.W.findIn K (.ref C57) "records" = some (some (.ref f84)))
    (q86 : PySem.W.isFn K (.ref f84) = true)
    (l87 : K.lookup f84 = some ⟨oc87, od87, .func (PySem.W.fnOf "records" "Rule.records" (defArgs s_Rule_records) (defBody s_Rule_records) (defScope s_Rule_records) .none kV87 dc87 pm87 an87 cd87 ct87), sl87⟩)
    (c87 : PySem.W.codeIn K cd87 "Rule.records" = true)
    (k87 : PySem.W.keepIn K (.ref f84) = true)
    (q89 : PySem.W.findIn K (.ref C57) "__and__" = some (some (.ref f88)))
    (q90 : PySem.W.isFn K (.ref f88) = true)
    (l91 : K.lookup f88 = some ⟨oc91, od91, .func (PySem.W.fnOf "__and__" "Rule.__and__" (defArgs s_RuleU_andU) (defBody s_RuleU_andU) (defScope s_RuleU_andU) .none kV91 dc91 pm91 an91 cd91 ct91), sl91⟩)
    (c91 : PySem.W.codeIn K cd91 "Rule.__and__" = true)
    (k91 : PySem.W.keepIn K (.ref f88) = true)
    (q93 : PySem.W.findIn K (.ref C57) "__or__" = some (some (.ref f92)))
    (q94 : PySem.W.isFn K (.ref f92) = true)
    (l95 : K.lookup f92 = some ⟨oc95, od95, .func (PySem.W.fnOf "__or__" "Rule.__or__" (defArgs s_RuleU_orU) (defBody s_RuleU_orU) (defScope s_RuleU_orU) .none kV95 dc95 pm95 an95 cd95 ct95), sl95⟩)
    (c95 : PySem.W.codeIn K cd95 "Rule.__or__" = true)
    (k95 : PySem.W.keepIn K (.ref f92) = true)
    (q97 : PySem.W.findIn K (.ref C57) "__rshift__" = some (some (.ref f96)))
    (q98 : PySem.W.isFn K (.ref f96) = true)
    (l99 : K.lookup f96 = some ⟨oc99, od99, .func (PySem.W.fnOf "__rshift__" "Rule.__rshift__" (defArgs s_RuleU_rshiftU) (defBody s_RuleU_rshiftU) (defScope s_RuleU_rshiftU) .none kV99 dc99 pm99 an99 cd99 ct99), sl99⟩)
    (c99 : PySem.W.codeIn K cd99 "Rule.__rshift__" = true)
    (k99 : PySem.W.keepIn K (.ref f96) = true)
    (q101 : PySem.W.findIn K (.ref C57) "__invert__" = some (some (.ref f100)))
    (q102 : PySem.W.isFn K (.ref f100) = true)
    (l103 : K.lookup f100 = some ⟨oc103, od103, .func (PySem.W.fnOf "__invert__" "Rule.__invert__" (defArgs s_RuleU_invertU) (defBody s_RuleU_invertU) (defScope s_RuleU_invertU) .none kV103 dc103 pm103 an103 cd103 ct103), sl103⟩)
    (c103 : PySem.W.codeIn K cd103 "Rule.__invert__" = true)
    (k103 : PySem.W.keepIn K (.ref f100) = true)
    (q105 : PySem.W.findIn K (.ref C57) "__str__" = some (some (.ref f104)))
    (q106 : PySem.W.isFn K (.ref f104) = true)
    (l107 : K.lookup f104 = some ⟨oc107, od107, .func (PySem.W.fnOf "__str__" "Rule.__str__" (defArgs s_RuleU_strU) (defBody s_RuleU_strU) (defScope s_RuleU_strU) .none kV107 dc107 pm107 an107 cd107 ct107), sl107⟩)
    (c107 : PySem.W.codeIn K cd107 "Rule.__str__" = true)
    (k107 : PySem.W.keepIn K (.ref f104) = true)
    (z108 : PySem.W.selfFirst K C57 = true)
    (a110 : PySem.W.nsIn K mainGlobals "mentioned" = some (some (.ref f109)))
    (l111 : K.lookup f109 = some ⟨oc111, od111, .func (PySem.W.fnOf "mentioned" "mentioned" (defArgs s_mentioned) (defBody s_mentioned) (defScope s_mentioned) .none kV111 dc111 pm111 an111 cd111 ct111), sl111⟩)
    (c111 : PySem.W.codeIn K cd111 "mentioned" = true)
    (k111 : PySem.W.keepIn K (.ref f109) = true)
    (a113 : PySem.W.nsIn K mainGlobals "combined" = some (some (.ref f112)))
    (l114 : K.lookup f112 = some ⟨oc114, od114, .func (PySem.W.fnOf "combined" "combined" (defArgs s_combined) (defBody s_combined) (defScope s_combined) .none kV114 dc114 pm114 an114 cd114 ct114), sl114⟩)
    (c114 : PySem.W.codeIn K cd114 "combined" = true)
    (k114 : PySem.W.keepIn K (.ref f112) = true)
    (a116 : PySem.W.nsIn K mainGlobals "spelled" = some (some (.ref f115)))
    (l117 : K.lookup f115 = some ⟨oc117, od117, .func (PySem.W.fnOf "spelled" "spelled" (defArgs s_spelled) (defBody s_spelled) (defScope s_spelled) .none kV117 dc117 pm117 an117 cd117 ct117), sl117⟩)
    (c117 : PySem.W.codeIn K cd117 "spelled" = true)
    (k117 : PySem.W.keepIn K (.ref f115) = true)
    (a119 : PySem.W.nsIn K mainGlobals "_law_pool" = some (some (.ref f118)))
    (l120 : K.lookup f118 = some ⟨oc120, od120, .func (PySem.W.fnOf "_law_pool" "_law_pool" (defArgs s_law_pool) (defBody s_law_pool) (defScope s_law_pool) .none kV120 dc120 pm120 an120 cd120 ct120), sl120⟩)
    (c120 : PySem.W.codeIn K cd120 "_law_pool" = true)
    (k120 : PySem.W.keepIn K (.ref f118) = true)
    (a122 : PySem.W.nsIn K mainGlobals "_law_draw" = some (some (.ref f121)))
    (l123 : K.lookup f121 = some ⟨oc123, od123, .func (PySem.W.fnOf "_law_draw" "_law_draw" (defArgs s_law_draw) (defBody s_law_draw) (defScope s_law_draw) .none kV123 dc123 pm123 an123 cd123 ct123), sl123⟩)
    (c123 : PySem.W.codeIn K cd123 "_law_draw" = true)
    (k123 : PySem.W.keepIn K (.ref f121) = true)
    (a125 : PySem.W.nsIn K mainGlobals "_law_word" = some (some (.ref f124)))
    (l126 : K.lookup f124 = some ⟨oc126, od126, .func (PySem.W.fnOf "_law_word" "_law_word" (defArgs s_law_word) (defBody s_law_word) (defScope s_law_word) .none kV126 dc126 pm126 an126 cd126 ct126), sl126⟩)
    (c126 : PySem.W.codeIn K cd126 "_law_word" = true)
    (k126 : PySem.W.keepIn K (.ref f124) = true)
    (a128 : PySem.W.nsIn K mainGlobals "_law_made" = some (some (.ref f127)))
    (l129 : K.lookup f127 = some ⟨oc129, od129, .func (PySem.W.fnOf "_law_made" "_law_made" (defArgs s_law_made) (defBody s_law_made) (defScope s_law_made) .none kV129 dc129 pm129 an129 cd129 ct129), sl129⟩)
    (c129 : PySem.W.codeIn K cd129 "_law_made" = true)
    (k129 : PySem.W.keepIn K (.ref f127) = true)
    (a131 : PySem.W.nsIn K mainGlobals "_law_conjunction" = some (some (.ref f130)))
    (l132 : K.lookup f130 = some ⟨oc132, od132, .func (PySem.W.fnOf "_law_conjunction" "_law_conjunction" (defArgs s_law_conjunction) (defBody s_law_conjunction) (defScope s_law_conjunction) .none kV132 dc132 pm132 an132 cd132 ct132), sl132⟩)
    (c132 : PySem.W.codeIn K cd132 "_law_conjunction" = true)
    (k132 : PySem.W.keepIn K (.ref f130) = true)
    (a134 : PySem.W.nsIn K mainGlobals "_law_eight" = some (some (.ref f133)))
    (l135 : K.lookup f133 = some ⟨oc135, od135, .func (PySem.W.fnOf "_law_eight" "_law_eight" (defArgs s_law_eight) (defBody s_law_eight) (defScope s_law_eight) .none kV135 dc135 pm135 an135 cd135 ct135), sl135⟩)
    (c135 : PySem.W.codeIn K cd135 "_law_eight" = true)
    (k135 : PySem.W.keepIn K (.ref f133) = true)
    (a137 : PySem.W.nsIn K mainGlobals "_law_odd" = some (some (.ref f136)))
    (l138 : K.lookup f136 = some ⟨oc138, od138, .func (PySem.W.fnOf "_law_odd" "_law_odd" (defArgs s_law_odd) (defBody s_law_odd) (defScope s_law_odd) .none kV138 dc138 pm138 an138 cd138 ct138), sl138⟩)
    (c138 : PySem.W.codeIn K cd138 "_law_odd" = true)
    (k138 : PySem.W.keepIn K (.ref f136) = true)
    (l139 : K.lookup fa = some ⟨oc139, od139, .func (PySem.W.fnOf "law" "law" (defArgs s_law) (defBody s_law) (defScope s_law) .none kV139 dc139 pm139 an139 cd139 ct139), sl139⟩)
    (c139 : PySem.W.codeIn K cd139 "law" = true)
    (k139 : PySem.W.keepIn K (.ref fa) = true)
    (z140 : PySem.W.nsIn K mainGlobals "len" = some none)
    (z141 : PySem.W.nsIn K mainGlobals "isinstance" = some none)
    (z142 : PySem.W.nsIn K mainGlobals "str" = some none)
    (z143 : PySem.W.nsIn K mainGlobals "super" = some none)
    (z144 : PySem.W.nsIn K mainGlobals "sorted" = some none)
    (z145 : PySem.W.nsIn K mainGlobals "set" = some none)
    (z146 : PySem.W.nsIn K mainGlobals "abs" = some none)
    (z147 : PySem.W.nsIn K mainGlobals "int" = some none)
    (z148 : PySem.W.nsIn K mainGlobals "range" = some none)
    (z149 : PySem.W.nsIn K mainGlobals "max" = some none)
    (z150 : PySem.W.nsIn K mainGlobals "min" = some none)
    (a152 : PySem.W.nsIn K mainGlobals "InnercommitsError" = some (some (.ref C151)))
    (z153 : PySem.W.exmOne K (.ref C30) (.ref C5) = some false)
    (x154 : cd139 = .ref 270)
    : ∃ fd : FuncData, (∀ (s : Shared) (v : Value), BindsTo s fd ⟨[v], []⟩ [("_law_script", v)]) ∧ ∀ base : Heap, K.In base → base.Ns mainGlobals mg → (∀ p ∈ ([(270, 268)] : List (Addr × Addr)), LamX.TabB base mg p.1 p.2) → FnOk P w K mg base CX0 19 fa fd ["_law_script"] (spLaw 268 K) := by
  have F3 := fun_mk (st := s_is_word) l3 c3 k3
  have b3 := F3.binds (ps := ["thing"]) fun _ _ _ _ _ _ us hl => match us, hl with | [_], _ => rfl
  have F71 := fun_mk (st := s_RuleU_initU) l71 c71 k71
  have b71 := F71.binds (ps := ["self", "form"]) fun _ _ _ _ _ _ us hl => match us, hl with | [_, _], _ => rfl
  have F77 := fun_mk (st := s_Rule_has) l77 c77 k77
  have b77 := F77.binds (ps := ["record"]) fun _ _ _ _ _ _ us hl => match us, hl with | [_], _ => rfl
  have F83 := fun_mk (st := s_Rule_together) l83 c83 k83
  have F87 := fun_mk (st := s_Rule_records) l87 c87 k87
  have b87 := F87.binds (ps := ["self"]) fun _ _ _ _ _ _ us hl => match us, hl with | [_], _ => rfl
  have F91 := fun_mk (st := s_RuleU_andU) l91 c91 k91
  have b91 := F91.binds (ps := ["self", "other"]) fun _ _ _ _ _ _ us hl => match us, hl with | [_, _], _ => rfl
  have F95 := fun_mk (st := s_RuleU_orU) l95 c95 k95
  have b95 := F95.binds (ps := ["self", "other"]) fun _ _ _ _ _ _ us hl => match us, hl with | [_, _], _ => rfl
  have F99 := fun_mk (st := s_RuleU_rshiftU) l99 c99 k99
  have b99 := F99.binds (ps := ["self", "other"]) fun _ _ _ _ _ _ us hl => match us, hl with | [_, _], _ => rfl
  have F103 := fun_mk (st := s_RuleU_invertU) l103 c103 k103
  have b103 := F103.binds (ps := ["self"]) fun _ _ _ _ _ _ us hl => match us, hl with | [_], _ => rfl
  have F107 := fun_mk (st := s_RuleU_strU) l107 c107 k107
  have b107 := F107.binds (ps := ["self"]) fun _ _ _ _ _ _ us hl => match us, hl with | [_], _ => rfl
  have F111 := fun_mk (st := s_mentioned) l111 c111 k111
  have b111 := F111.binds (ps := ["form"]) fun _ _ _ _ _ _ us hl => match us, hl with | [_], _ => rfl
  have F114 := fun_mk (st := s_combined) l114 c114 k114
  have b114 := F114.binds (ps := ["word", "one", "other"]) fun _ _ _ _ _ _ us hl => match us, hl with | [_, _, _], _ => rfl
  have F117 := fun_mk (st := s_spelled) l117 c117 k117
  have b117 := F117.binds (ps := ["form"]) fun _ _ _ _ _ _ us hl => match us, hl with | [_], _ => rfl
  have F120 := fun_mk (st := s_law_pool) l120 c120 k120
  have b120 := F120.binds (ps := ["_law_script", "_law_at"]) fun _ _ _ _ _ _ us hl => match us, hl with | [_, _], _ => rfl
  have F123 := fun_mk (st := s_law_draw) l123 c123 k123
  have b123 := F123.binds (ps := ["_law_pool_here", "_law_many"]) fun _ _ _ _ _ _ us hl => match us, hl with | [_, _], _ => rfl
  have F126 := fun_mk (st := s_law_word) l126 c126 k126
  have b126 := F126.binds (ps := ["_law_pool_here"]) fun _ _ _ _ _ _ us hl => match us, hl with | [_], _ => rfl
  have F129 := fun_mk (st := s_law_made) l129 c129 k129
  have b129 := F129.binds (ps := ["_law_make"]) fun _ _ _ _ _ _ us hl => match us, hl with | [_], _ => rfl
  have F132 := fun_mk (st := s_law_conjunction) l132 c132 k132
  have b132 := F132.binds (ps := ["_law_words"]) fun _ _ _ _ _ _ us hl => match us, hl with | [_], _ => rfl
  have F135 := fun_mk (st := s_law_eight) l135 c135 k135
  have b135 := F135.binds (ps := ["_law_w"]) fun _ _ _ _ _ _ us hl => match us, hl with | [_], _ => rfl
  have F138 := fun_mk (st := s_law_odd) l138 c138 k138
  have b138 := F138.binds (ps := ["_law_pool_here"]) fun _ _ _ _ _ _ us hl => match us, hl with | [_], _ => rfl
  have F139 := fun_mk (st := s_law) l139 c139 k139
  have b139 := F139.binds (ps := ["_law_script"]) fun _ _ _ _ _ _ us hl => match us, hl with | [_], _ => rfl
  have T : Txt K mg ⟨f1, C5, f7, C30, f32, C57, f66, f72, p73, f78, p79, f84, f88, f92, f96, f100, f104, f109, f112, f115, f118, f121, f124, f127, f130, f133, f136, fa, C151⟩ ⟨PySem.W.fnOf "is_word" "is_word" (defArgs s_is_word) (defBody s_is_word) (defScope s_is_word) .none kV3 dc3 pm3 an3 cd3 ct3, PySem.W.fnOf "__init__" "Rule.__init__" (defArgs s_RuleU_initU) (defBody s_RuleU_initU) (defScope s_RuleU_initU) .none kV71 dc71 pm71 an71 cd71 ct71, PySem.W.fnOf "has" "Rule.has" (defArgs s_Rule_has) (defBody s_Rule_has) (defScope s_Rule_has) .none kV77 dc77 pm77 an77 cd77 ct77, PySem.W.fnOf "together" "Rule.together" (defArgs s_Rule_together) (defBody s_Rule_together) (defScope s_Rule_together) .none kV83 dc83 pm83 an83 cd83 ct83, PySem.W.fnOf "records" "Rule.records" (defArgs s_Rule_records) (defBody s_Rule_records) (defScope s_Rule_records) .none kV87 dc87 pm87 an87 cd87 ct87, PySem.W.fnOf "__and__" "Rule.__and__" (defArgs s_RuleU_andU) (defBody s_RuleU_andU) (defScope s_RuleU_andU) .none kV91 dc91 pm91 an91 cd91 ct91, PySem.W.fnOf "__or__" "Rule.__or__" (defArgs s_RuleU_orU) (defBody s_RuleU_orU) (defScope s_RuleU_orU) .none kV95 dc95 pm95 an95 cd95 ct95, PySem.W.fnOf "__rshift__" "Rule.__rshift__" (defArgs s_RuleU_rshiftU) (defBody s_RuleU_rshiftU) (defScope s_RuleU_rshiftU) .none kV99 dc99 pm99 an99 cd99 ct99, PySem.W.fnOf "__invert__" "Rule.__invert__" (defArgs s_RuleU_invertU) (defBody s_RuleU_invertU) (defScope s_RuleU_invertU) .none kV103 dc103 pm103 an103 cd103 ct103, PySem.W.fnOf "__str__" "Rule.__str__" (defArgs s_RuleU_strU) (defBody s_RuleU_strU) (defScope s_RuleU_strU) .none kV107 dc107 pm107 an107 cd107 ct107, PySem.W.fnOf "mentioned" "mentioned" (defArgs s_mentioned) (defBody s_mentioned) (defScope s_mentioned) .none kV111 dc111 pm111 an111 cd111 ct111, PySem.W.fnOf "combined" "combined" (defArgs s_combined) (defBody s_combined) (defScope s_combined) .none kV114 dc114 pm114 an114 cd114 ct114, PySem.W.fnOf "spelled" "spelled" (defArgs s_spelled) (defBody s_spelled) (defScope s_spelled) .none kV117 dc117 pm117 an117 cd117 ct117, PySem.W.fnOf "_law_pool" "_law_pool" (defArgs s_law_pool) (defBody s_law_pool) (defScope s_law_pool) .none kV120 dc120 pm120 an120 cd120 ct120, PySem.W.fnOf "_law_draw" "_law_draw" (defArgs s_law_draw) (defBody s_law_draw) (defScope s_law_draw) .none kV123 dc123 pm123 an123 cd123 ct123, PySem.W.fnOf "_law_word" "_law_word" (defArgs s_law_word) (defBody s_law_word) (defScope s_law_word) .none kV126 dc126 pm126 an126 cd126 ct126, PySem.W.fnOf "_law_made" "_law_made" (defArgs s_law_made) (defBody s_law_made) (defScope s_law_made) .none kV129 dc129 pm129 an129 cd129 ct129, PySem.W.fnOf "_law_conjunction" "_law_conjunction" (defArgs s_law_conjunction) (defBody s_law_conjunction) (defScope s_law_conjunction) .none kV132 dc132 pm132 an132 cd132 ct132, PySem.W.fnOf "_law_eight" "_law_eight" (defArgs s_law_eight) (defBody s_law_eight) (defScope s_law_eight) .none kV135 dc135 pm135 an135 cd135 ct135, PySem.W.fnOf "_law_odd" "_law_odd" (defArgs s_law_odd) (defBody s_law_odd) (defScope s_law_odd) .none kV138 dc138 pm138 an138 cd138 ct138, PySem.W.fnOf "law" "law" (defArgs s_law) (defBody s_law) (defScope s_law) .none kV139 dc139 pm139 an139 cd139 ct139⟩ := ⟨F3, b3, PySem.W.mg_of X G a2, PySem.W.mg_of X G a6, ec_BadWord e9 e10 e11 e12 e13 e14 e15 e16 e17 e18 e19 e20 e21 e22 e23 z4 e24 e25 e26 e27 e28 e29, PySem.W.mg_of X G a31, ec_TooMany e34 e35 e36 e37 e38 e39 e40 e41 e42 e43 e44 e45 e46 e47 e48 z4 e49 e50 e51 e52 e53 e54, ⟨_, PySem.W.mg_of X G z55, ⟨_, rfl⟩⟩, PySem.W.mg_of X G a58, ⟨r59, s60⟩, ⟨q61, q62, q63, q64⟩, z65, F71, b71, ⟨q67, q68, q69, q70⟩, F77, b77, ⟨z74, _, r75⟩, F83, ⟨z80, _, r81⟩, F87, b87, ⟨q85, q86, k87⟩, F91, b91, ⟨q89, q90, k91⟩, F95, b95, ⟨q93, q94, k95⟩, F99, b99, ⟨q97, q98, k99⟩, F103, b103, ⟨q101, q102, k103⟩, F107, b107, ⟨q105, q106, k107⟩, z108, F111, b111, PySem.W.mg_of X G a110, F114, b114, PySem.W.mg_of X G a113, F117, b117, PySem.W.mg_of X G a116, F120, b120, PySem.W.mg_of X G a119, F123, b123, PySem.W.mg_of X G a122, F126, b126, PySem.W.mg_of X G a125, F129, b129, PySem.W.mg_of X G a128, F132, b132, PySem.W.mg_of X G a131, F135, b135, PySem.W.mg_of X G a134, F138, b138, PySem.W.mg_of X G a137, F139, b139, hfa, PySem.W.mg_none_of X G z140, PySem.W.mg_none_of X G z141, PySem.W.mg_none_of X G z142, PySem.W.mg_none_of X G z143, PySem.W.mg_none_of X G z144, PySem.W.mg_none_of X G z145, PySem.W.mg_none_of X G z146, PySem.W.mg_none_of X G z147, PySem.W.mg_none_of X G z148, PySem.W.mg_none_of X G z149, PySem.W.mg_none_of X G z150, PySem.W.mg_of X G a152, z153, funC_mk l139 x154 c139⟩
  exact ⟨_, fun s v => .of_eq rfl, fun base _ _ TB => ok_law T (TB (270, 268) (.head _))⟩
theorem all_mk' {w : World} {K : PySem.W.Frag} {h : Heap} {mg : Str → Option Value} {fa f0 : Addr} (X : K.In h) (G : h.Ns mainGlobals mg) (hfa0 : mg "law" = some (.ref fa))
    {f1 : Addr}
    {od3 an3 : Option Addr} {sl3 : Array (Option Value)} {oc3 kV3 dc3 pm3 cd3 ct3 : Value}
    {C5 : Addr}
    {f7 : Addr} {nm8 qn8 : Str} {N8 : Addr} {bs8 bm8 : List Value} {sn8 : List Str} {sub8 : List Value} {ab8 : Bool} {col8 : Option Bool} {dd8 : Option Addr} {k08 k18 k28 k38 k58 : Option Value}
    {oc8 : Value} {od8 : Option Addr} {doc8 pm8 : Value} {an8 : Option Addr} {cda8 cc8 : Addr} {ct8 : Value} {osl8 : Array (Option Value)} {ccl8 : Value} {cdd8 : Option Addr} {vs8 : Array Value} {ccs8 : Array (Option Value)} {tf8 : Tok} {cl8 : Value} {cld8 : Option Addr} {csl8 : Array (Option Value)}
    {C30 : Addr}
    {f32 : Addr} {nm33 qn33 : Str} {N33 : Addr} {bs33 bm33 : List Value} {sn33 : List Str} {sub33 : List Value} {ab33 : Bool} {col33 : Option Bool} {dd33 : Option Addr} {k033 k133 k233 k333 k533 : Option Value}
    {oc33 : Value} {od33 : Option Addr} {doc33 pm33 : Value} {an33 : Option Addr} {cda33 cc33 : Addr} {ct33 : Value} {osl33 : Array (Option Value)} {ccl33 : Value} {cdd33 : Option Addr} {vs33 : Array Value} {ccs33 : Array (Option Value)} {tf33 : Tok} {cl33 : Value} {cld33 : Option Addr} {csl33 : Array (Option Value)}
    {t56 : Tok}
    {C57 : Addr}
    {f66 : Addr}
    {od71 an71 : Option Addr} {sl71 : Array (Option Value)} {oc71 kV71 dc71 pm71 cd71 ct71 : Value}
    {f72 p73 : Addr} {rs76 : List Value}
    {od77 an77 : Option Addr} {sl77 : Array (Option Value)} {oc77 kV77 dc77 pm77 cd77 ct77 : Value}
    {f78 p79 : Addr} {rs82 : List Value}
    {od83 an83 : Option Addr} {sl83 : Array (Option Value)} {oc83 kV83 dc83 pm83 cd83 ct83 : Value}
    {f84 : Addr}
    {od87 an87 : Option Addr} {sl87 : Array (Option Value)} {oc87 kV87 dc87 pm87 cd87 ct87 : Value}
    {f88 : Addr}
    {od91 an91 : Option Addr} {sl91 : Array (Option Value)} {oc91 kV91 dc91 pm91 cd91 ct91 : Value}
    {f92 : Addr}
    {od95 an95 : Option Addr} {sl95 : Array (Option Value)} {oc95 kV95 dc95 pm95 cd95 ct95 : Value}
    {f96 : Addr}
    {od99 an99 : Option Addr} {sl99 : Array (Option Value)} {oc99 kV99 dc99 pm99 cd99 ct99 : Value}
    {f100 : Addr}
    {od103 an103 : Option Addr} {sl103 : Array (Option Value)} {oc103 kV103 dc103 pm103 cd103 ct103 : Value}
    {f104 : Addr}
    {od107 an107 : Option Addr} {sl107 : Array (Option Value)} {oc107 kV107 dc107 pm107 cd107 ct107 : Value}
    {f109 : Addr}
    {od111 an111 : Option Addr} {sl111 : Array (Option Value)} {oc111 kV111 dc111 pm111 cd111 ct111 : Value}
    {f112 : Addr}
    {od114 an114 : Option Addr} {sl114 : Array (Option Value)} {oc114 kV114 dc114 pm114 cd114 ct114 : Value}
    {f115 : Addr}
    {od117 an117 : Option Addr} {sl117 : Array (Option Value)} {oc117 kV117 dc117 pm117 cd117 ct117 : Value}
    {f118 : Addr}
    {od120 an120 : Option Addr} {sl120 : Array (Option Value)} {oc120 kV120 dc120 pm120 cd120 ct120 : Value}
    {f121 : Addr}
    {od123 an123 : Option Addr} {sl123 : Array (Option Value)} {oc123 kV123 dc123 pm123 cd123 ct123 : Value}
    {f124 : Addr}
    {od126 an126 : Option Addr} {sl126 : Array (Option Value)} {oc126 kV126 dc126 pm126 cd126 ct126 : Value}
    {f127 : Addr}
    {od129 an129 : Option Addr} {sl129 : Array (Option Value)} {oc129 kV129 dc129 pm129 cd129 ct129 : Value}
    {f130 : Addr}
    {od132 an132 : Option Addr} {sl132 : Array (Option Value)} {oc132 kV132 dc132 pm132 cd132 ct132 : Value}
    {f133 : Addr}
    {od135 an135 : Option Addr} {sl135 : Array (Option Value)} {oc135 kV135 dc135 pm135 cd135 ct135 : Value}
    {f136 : Addr}
    {od138 an138 : Option Addr} {sl138 : Array (Option Value)} {oc138 kV138 dc138 pm138 cd138 ct138 : Value}
    {od139 an139 : Option Addr} {sl139 : Array (Option Value)} {oc139 kV139 dc139 pm139 cd139 ct139 : Value}
    {C151 : Addr}
    (a0 : PySem.W.nsIn K mainGlobals "law" = some (some (.ref f0)))
    (a2 : PySem.W.nsIn K mainGlobals "is_word" = some (some (.ref f1)))
    (l3 : K.lookup f1 = some ⟨oc3, od3, .func (PySem.W.fnOf "is_word" "is_word" (defArgs s_is_word) (defBody s_is_word) (defScope s_is_word) .none kV3 dc3 pm3 an3 cd3 ct3), sl3⟩)
    (c3 : PySem.W.codeIn K cd3 "is_word" = true)
    (k3 : PySem.W.keepIn K (.ref f1) = true)
    (z4 : PySem.W.nsIn K cStatics "thirdparty.any" = some none)
    (a6 : PySem.W.nsIn K mainGlobals "BadWord" = some (some (.ref C5)))
    (e9 : K.lookup C5 = some (excClassObj nm8 qn8 C5 N8 bs8 bm8 true sn8 sub8 ab8 col8 dd8 k08 k18 k28 k38 k58 "ValueError.__new__"))
    (e10 : PySem.HandSPX.refsVE bm8 = true)
    (e11 : PySem.W.findIn K (.ref C5) "__setattr__" = some (some (.builtin "object.__setattr__")))
    (e12 : PySem.W.findIn K (.ref C5) "__getattribute__" = some (some (.builtin "BaseException.__getattribute__")))
    (e13 : PySem.W.findIn K (.ref C5) "__getattr__" = some none)
    (e14 : PySem.W.findIn K (.ref C5) "__init__" = some (some (.ref f7)))
    (e15 : PySem.W.typeIn K (.ref f7) = some (.type "function"))
    (e16 : PySem.W.keepIn K (.ref C5) = true)
    (e17 : PySem.W.subIn K (.ref C5) (.type "BaseException") = some true)
    (e18 : PySem.W.subIn K (.ref C5) (.type "ValueError") = some true)
    (e19 : PySem.W.typeIn K (.ref C5) = some (.type "type"))
    (e20 : PySem.W.hasDictIn K C5 = true)
    (e21 : PySem.W.ks_superIn K C5 C5 "__init__" = some (some (.builtin "ValueError.__init__")))
    (e22 : PySem.W.mroIn K C5 (.ref C5) = some true)
    (e23 : PySem.W.exmOne K (.ref C5) (.ref C5) = some true)
    (e24 : K.lookup f7 = some ⟨oc8, od8, .func (PySem.W.ksFn "__init__" "BadWord.__init__" (defArgs s_BadWordU_initU) (defBody s_BadWordU_initU) (defScope s_BadWordU_initU) .none .none doc8 pm8 an8 (.ref cda8) ct8 cc8), osl8⟩)
    (e25 : PySem.W.codeIn K (.ref cda8) "BadWord.__init__" = true)
    (e26 : K.lookup cda8 = some ⟨ccl8, cdd8, .fields vs8, ccs8⟩)
    (e27 : vs8[2]? = some (.str P.main.file tf8))
    (e28 : K.lookup cc8 = some ⟨cl8, cld8, .cell (some (.ref C5)), csl8⟩)
    (e29 : PySem.W.findIn K (.ref C5) "word" = some none)
    (a31 : PySem.W.nsIn K mainGlobals "TooMany" = some (some (.ref C30)))
    (e34 : K.lookup C30 = some (excClassObj nm33 qn33 C30 N33 bs33 bm33 true sn33 sub33 ab33 col33 dd33 k033 k133 k233 k333 k533 "ValueError.__new__"))
    (e35 : PySem.HandSPX.refsVE bm33 = true)
    (e36 : PySem.W.findIn K (.ref C30) "__setattr__" = some (some (.builtin "object.__setattr__")))
    (e37 : PySem.W.findIn K (.ref C30) "__getattribute__" = some (some (.builtin "BaseException.__getattribute__")))
    (e38 : PySem.W.findIn K (.ref C30) "__getattr__" = some none)
    (e39 : PySem.W.findIn K (.ref C30) "__init__" = some (some (.ref f32)))
    (e40 : PySem.W.typeIn K (.ref f32) = some (.type "function"))
    (e41 : PySem.W.keepIn K (.ref C30) = true)
    (e42 : PySem.W.subIn K (.ref C30) (.type "BaseException") = some true)
    (e43 : PySem.W.subIn K (.ref C30) (.type "ValueError") = some true)
    (e44 : PySem.W.typeIn K (.ref C30) = some (.type "type"))
    (e45 : PySem.W.hasDictIn K C30 = true)
    (e46 : PySem.W.ks_superIn K C30 C30 "__init__" = some (some (.builtin "ValueError.__init__")))
    (e47 : PySem.W.mroIn K C30 (.ref C30) = some true)
    (e48 : PySem.W.exmOne K (.ref C30) (.ref C30) = some true)
    (e49 : K.lookup f32 = some ⟨oc33, od33, .func (PySem.W.ksFn "__init__" "TooMany.__init__" (defArgs s_TooManyU_initU) (defBody s_TooManyU_initU) (defScope s_TooManyU_initU) .none .none doc33 pm33 an33 (.ref cda33) ct33 cc33), osl33⟩)
    (e50 : PySem.W.codeIn K (.ref cda33) "TooMany.__init__" = true)
    (e51 : K.lookup cda33 = some ⟨ccl33, cdd33, .fields vs33, ccs33⟩)
    (e52 : vs33[2]? = some (.str P.main.file tf33))
    (e53 : K.lookup cc33 = some ⟨cl33, cld33, .cell (some (.ref C30)), csl33⟩)
    (e54 : PySem.W.findIn K (.ref C30) "what" = some none)
    (z55 : PySem.W.nsIn K mainGlobals "MOST_RECORDS" = some (some (.int 6 t56)))
    (a58 : PySem.W.nsIn K mainGlobals "Rule" = some (some (.ref C57)))
    (r59 : PySem.W.readsIn K C57 (.type "type") = true)
    (s60 : PySem.W.specialIn K (.ref C57) "__getattribute__" = some (some (.builtin "type.__getattribute__")))
    (q61 : PySem.W.plainGet K C57 Str.empty = true)
    (q62 : PySem.W.hasDictIn K C57 = true)
    (q63 : PySem.W.plainOver K C57 = true)
    (q64 : PySem.W.findIn K (.ref C57) "__setattr__" = some (some (.builtin "object.__setattr__")))
    (z65 : PySem.W.findIn K (.ref C57) "form" = some none)
    (q67 : PySem.W.makesIn K C57 = true)
    (q68 : PySem.W.findIn K (.ref C57) "__init__" = some (some (.ref f66)))
    (q69 : PySem.W.isFn K (.ref f66) = true)
    (q70 : PySem.W.keepIn K (.ref C57) = true)
    (l71 : K.lookup f66 = some ⟨oc71, od71, .func (PySem.W.fnOf "__init__" "Rule.__init__" (defArgs s_RuleU_initU) (defBody s_RuleU_initU) (defScope s_RuleU_initU) .none kV71 dc71 pm71 an71 cd71 ct71), sl71⟩)
    (c71 : PySem.W.codeIn K cd71 "Rule.__init__" = true)
    (k71 : PySem.W.keepIn K (.ref f66) = true)
    (z74 : PySem.W.findCls K (.ref C57) (.type "type") "has" = some (.get (.builtin "staticmethod.__get__") (.ref p73) .none (.ref C57)))
    (r75 : PySem.W.recIn K p73 "staticmethod" = some (.ref f72 :: rs76))
    (l77 : K.lookup f72 = some ⟨oc77, od77, .func (PySem.W.fnOf "has" "Rule.has" (defArgs s_Rule_has) (defBody s_Rule_has) (defScope s_Rule_has) .none kV77 dc77 pm77 an77 cd77 ct77), sl77⟩)
    (c77 : PySem.W.codeIn K cd77 "Rule.has" = true)
    (k77 : PySem.W.keepIn K (.ref f72) = true)
    (z80 : PySem.W.findCls K (.ref C57) (.type "type") "together" = some (.get (.builtin "staticmethod.__get__") (.ref p79) .none (.ref C57)))
    (r81 : PySem.W.recIn K p79 "staticmethod" = some (.ref f78 :: rs82))
    (l83 : K.lookup f78 = some ⟨oc83, od83, .func (PySem.W.fnOf "together" "Rule.together" (defArgs s_Rule_together) (defBody s_Rule_together) (defScope s_Rule_together) .none kV83 dc83 pm83 an83 cd83 ct83), sl83⟩)
    (c83 : PySem.W.codeIn K cd83 "Rule.together" = true)
    (k83 : PySem.W.keepIn K (.ref f78) = true)
    (q85 : PySem.W.findIn K (.ref C57) "records" = some (some (.ref f84)))
    (q86 : PySem.W.isFn K (.ref f84) = true)
    (l87 : K.lookup f84 = some ⟨oc87, od87, .func (PySem.W.fnOf "records" "Rule.records" (defArgs s_Rule_records) (defBody s_Rule_records) (defScope s_Rule_records) .none kV87 dc87 pm87 an87 cd87 ct87), sl87⟩)
    (c87 : PySem.W.codeIn K cd87 "Rule.records" = true)
    (k87 : PySem.W.keepIn K (.ref f84) = true)
    (q89 : PySem.W.findIn K (.ref C57) "__and__" = some (some (.ref f88)))
    (q90 : PySem.W.isFn K (.ref f88) = true)
    (l91 : K.lookup f88 = some ⟨oc91, od91, .func (PySem.W.fnOf "__and__" "Rule.__and__" (defArgs s_RuleU_andU) (defBody s_RuleU_andU) (defScope s_RuleU_andU) .none kV91 dc91 pm91 an91 cd91 ct91), sl91⟩)
    (c91 : PySem.W.codeIn K cd91 "Rule.__and__" = true)
    (k91 : PySem.W.keepIn K (.ref f88) = true)
    (q93 : PySem.W.findIn K (.ref C57) "__or__" = some (some (.ref f92)))
    (q94 : PySem.W.isFn K (.ref f92) = true)
    (l95 : K.lookup f92 = some ⟨oc95, od95, .func (PySem.W.fnOf "__or__" "Rule.__or__" (defArgs s_RuleU_orU) (defBody s_RuleU_orU) (defScope s_RuleU_orU) .none kV95 dc95 pm95 an95 cd95 ct95), sl95⟩)
    (c95 : PySem.W.codeIn K cd95 "Rule.__or__" = true)
    (k95 : PySem.W.keepIn K (.ref f92) = true)
    (q97 : PySem.W.findIn K (.ref C57) "__rshift__" = some (some (.ref f96)))
    (q98 : PySem.W.isFn K (.ref f96) = true)
    (l99 : K.lookup f96 = some ⟨oc99, od99, .func (PySem.W.fnOf "__rshift__" "Rule.__rshift__" (defArgs s_RuleU_rshiftU) (defBody s_RuleU_rshiftU) (defScope s_RuleU_rshiftU) .none kV99 dc99 pm99 an99 cd99 ct99), sl99⟩)
    (c99 : PySem.W.codeIn K cd99 "Rule.__rshift__" = true)
    (k99 : PySem.W.keepIn K (.ref f96) = true)
    (q101 : PySem.W.findIn K (.ref C57) "__invert__" = some (some (.ref f100)))
    (q102 : PySem.W.isFn K (.ref f100) = true)
    (l103 : K.lookup f100 = some ⟨oc103, od103, .func (PySem.W.fnOf "__invert__" "Rule.__invert__" (defArgs s_RuleU_invertU) (defBody s_RuleU_invertU) (defScope s_RuleU_invertU) .none kV103 dc103 pm103 an103 cd103 ct103), sl103⟩)
    (c103 : PySem.W.codeIn K cd103 "Rule.__invert__" = true)
    (k103 : PySem.W.keepIn K (.ref f100) = true)
    (q105 : PySem.W.findIn K (.ref C57) "__str__" = some (some (.ref f104)))
    (q106 : PySem.W.isFn K (.ref f104) = true)
    (l107 : K.lookup f104 = some ⟨oc107, od107, .func (PySem.W.fnOf "__str__" "Rule.__str__" (defArgs s_RuleU_strU) (defBody s_RuleU_strU) (defScope s_RuleU_strU) .none kV107 dc107 pm107 an107 cd107 ct107), sl107⟩)
    (c107 : PySem.W.codeIn K cd107 "Rule.__str__" = true)
    (k107 : PySem.W.keepIn K (.ref f104) = true)
    (z108 : PySem.W.selfFirst K C57 = true)
    (a110 : PySem.W.nsIn K mainGlobals "mentioned" = some (some (.ref f109)))
    (l111 : K.lookup f109 = some ⟨oc111, od111, .func (PySem.W.fnOf "mentioned" "mentioned" (defArgs s_mentioned) (defBody s_mentioned) (defScope s_mentioned) .none kV111 dc111 pm111 an111 cd111 ct111), sl111⟩)
    (c111 : PySem.W.codeIn K cd111 "mentioned" = true)
    (k111 : PySem.W.keepIn K (.ref f109) = true)
    (a113 : PySem.W.nsIn K mainGlobals "combined" = some (some (.ref f112)))
    (l114 : K.lookup f112 = some ⟨oc114, od114, .func (PySem.W.fnOf "combined" "combined" (defArgs s_combined) (defBody s_combined) (defScope s_combined) .none kV114 dc114 pm114 an114 cd114 ct114), sl114⟩)
    (c114 : PySem.W.codeIn K cd114 "combined" = true)
    (k114 : PySem.W.keepIn K (.ref f112) = true)
    (a116 : PySem.W.nsIn K mainGlobals "spelled" = some (some (.ref f115)))
    (l117 : K.lookup f115 = some ⟨oc117, od117, .func (PySem.W.fnOf "spelled" "spelled" (defArgs s_spelled) (defBody s_spelled) (defScope s_spelled) .none kV117 dc117 pm117 an117 cd117 ct117), sl117⟩)
    (c117 : PySem.W.codeIn K cd117 "spelled" = true)
    (k117 : PySem.W.keepIn K (.ref f115) = true)
    (a119 : PySem.W.nsIn K mainGlobals "_law_pool" = some (some (.ref f118)))
    (l120 : K.lookup f118 = some ⟨oc120, od120, .func (PySem.W.fnOf "_law_pool" "_law_pool" (defArgs s_law_pool) (defBody s_law_pool) (defScope s_law_pool) .none kV120 dc120 pm120 an120 cd120 ct120), sl120⟩)
    (c120 : PySem.W.codeIn K cd120 "_law_pool" = true)
    (k120 : PySem.W.keepIn K (.ref f118) = true)
    (a122 : PySem.W.nsIn K mainGlobals "_law_draw" = some (some (.ref f121)))
    (l123 : K.lookup f121 = some ⟨oc123, od123, .func (PySem.W.fnOf "_law_draw" "_law_draw" (defArgs s_law_draw) (defBody s_law_draw) (defScope s_law_draw) .none kV123 dc123 pm123 an123 cd123 ct123), sl123⟩)
    (c123 : PySem.W.codeIn K cd123 "_law_draw" = true)
    (k123 : PySem.W.keepIn K (.ref f121) = true)
    (a125 : PySem.W.nsIn K mainGlobals "_law_word" = some (some (.ref f124)))
    (l126 : K.lookup f124 = some ⟨oc126, od126, .func (PySem.W.fnOf "_law_word" "_law_word" (defArgs s_law_word) (defBody s_law_word) (defScope s_law_word) .none kV126 dc126 pm126 an126 cd126 ct126), sl126⟩)
    (c126 : PySem.W.codeIn K cd126 "_law_word" = true)
    (k126 : PySem.W.keepIn K (.ref f124) = true)
    (a128 : PySem.W.nsIn K mainGlobals "_law_made" = some (some (.ref f127)))
    (l129 : K.lookup f127 = some ⟨oc129, od129, .func (PySem.W.fnOf "_law_made" "_law_made" (defArgs s_law_made) (defBody s_law_made) (defScope s_law_made) .none kV129 dc129 pm129 an129 cd129 ct129), sl129⟩)
    (c129 : PySem.W.codeIn K cd129 "_law_made" = true)
    (k129 : PySem.W.keepIn K (.ref f127) = true)
    (a131 : PySem.W.nsIn K mainGlobals "_law_conjunction" = some (some (.ref f130)))
    (l132 : K.lookup f130 = some ⟨oc132, od132, .func (PySem.W.fnOf "_law_conjunction" "_law_conjunction" (defArgs s_law_conjunction) (defBody s_law_conjunction) (defScope s_law_conjunction) .none kV132 dc132 pm132 an132 cd132 ct132), sl132⟩)
    (c132 : PySem.W.codeIn K cd132 "_law_conjunction" = true)
    (k132 : PySem.W.keepIn K (.ref f130) = true)
    (a134 : PySem.W.nsIn K mainGlobals "_law_eight" = some (some (.ref f133)))
    (l135 : K.lookup f133 = some ⟨oc135, od135, .func (PySem.W.fnOf "_law_eight" "_law_eight" (defArgs s_law_eight) (defBody s_law_eight) (defScope s_law_eight) .none kV135 dc135 pm135 an135 cd135 ct135), sl135⟩)
    (c135 : PySem.W.codeIn K cd135 "_law_eight" = true)
    (k135 : PySem.W.keepIn K (.ref f133) = true)
    (a137 : PySem.W.nsIn K mainGlobals "_law_odd" = some (some (.ref f136)))
    (l138 : K.lookup f136 = some ⟨oc138, od138, .func (PySem.W.fnOf "_law_odd" "_law_odd" (defArgs s_law_odd) (defBody s_law_odd) (defScope s_law_odd) .none kV138 dc138 pm138 an138 cd138 ct138), sl138⟩)
    (c138 : PySem.W.codeIn K cd138 "_law_odd" = true)
    (k138 : PySem.W.keepIn K (.ref f136) = true)
    (l139 : K.lookup f0 = some ⟨oc139, od139, .func (PySem.W.fnOf "law" "law" (defArgs s_law) (defBody s_law) (defScope s_law) .none kV139 dc139 pm139 an139 cd139 ct139), sl139⟩)
    (c139 : PySem.W.codeIn K cd139 "law" = true)
    (k139 : PySem.W.keepIn K (.ref f0) = true)
    (z140 : PySem.W.nsIn K mainGlobals "len" = some none)
    (z141 : PySem.W.nsIn K mainGlobals "isinstance" = some none)
    (z142 : PySem.W.nsIn K mainGlobals "str" = some none)
    (z143 : PySem.W.nsIn K mainGlobals "super" = some none)
    (z144 : PySem.W.nsIn K mainGlobals "sorted" = some none)
    (z145 : PySem.W.nsIn K mainGlobals "set" = some none)
    (z146 : PySem.W.nsIn K mainGlobals "abs" = some none)
    (z147 : PySem.W.nsIn K mainGlobals "int" = some none)
    (z148 : PySem.W.nsIn K mainGlobals "range" = some none)
    (z149 : PySem.W.nsIn K mainGlobals "max" = some none)
    (z150 : PySem.W.nsIn K mainGlobals "min" = some none)
    (a152 : PySem.W.nsIn K mainGlobals "InnercommitsError" = some (some (.ref C151)))
    (z153 : PySem.W.exmOne K (.ref C30) (.ref C5) = some false)
    (x154 : cd139 = .ref 270)
    : ∃ fd : FuncData, (∀ (s : Shared) (v : Value), BindsTo s fd ⟨[v], []⟩ [("_law_script", v)]) ∧ ∀ base : Heap, K.In base → base.Ns mainGlobals mg → (∀ p ∈ ([(270, 268)] : List (Addr × Addr)), LamX.TabB base mg p.1 p.2) → FnOk P w K mg base CX0 19 fa fd ["_law_script"] (spLaw 268 K) := by
  have e := hfa0.symm.trans (PySem.W.mg_of X G a0)
  cases e
  exact all_mk X G hfa0 a2 l3 c3 k3 z4 a6 e9 e10 e11 e12 e13 e14 e15 e16 e17 e18 e19 e20 e21 e22 e23 e24 e25 e26 e27 e28 e29 a31 e34 e35 e36 e37 e38 e39 e40 e41 e42 e43 e44 e45 e46 e47 e48 e49 e50 e51 e52 e53 e54 z55 a58 r59 s60 q61 q62 q63 q64 z65 q67 q68 q69 q70 l71 c71 k71 z74 r75 l77 c77 k77 z80 r81 l83 c83 k83 q85 q86 l87 c87 k87 q89 q90 l91 c91 k91 q93 q94 l95 c95 k95 q97 q98 l99 c99 k99 q101 q102 l103 c103 k103 q105 q106 l107 c107 k107 z108 a110 l111 c111 k111 a113 l114 c114 k114 a116 l117 c117 k117 a119 l120 c120 k120 a122 l123 c123 k123 a125 l126 c126 k126 a128 l129 c129 k129 a131 l132 c132 k132 a134 l135 c135 k135 a137 l138 c138 k138 l139 c139 k139 z140 z141 z142 z143 z144 z145 z146 z147 z148 z149 z150 a152 z153 x154
end Ic
open PySem PySem.W PyProof.Rows
set_option maxRecDepth 100000 in
set_option maxHeartbeats 0 in
theorem PySem.Challenge.cw_innercommits_k18_rules_refused_holds : PySem.Challenge.rw_innercommits_k18_rules_refused.Holds := by
  w_on; o_law; k_head; (case hw => w_witness2)
  k_fill
  refine LamX.walk_ofTs (l := PySem.Challenge.rw_innercommits_k18_rules_refused) (n := 63) (k := 19) (x := "_law_script") (CX := fun _ => L2.CX0) rfl (by decide) rfl ⟨rfl, by decide, by decide⟩ (fun w h Y => PySem.W.km_in_of Y) ?F (fun _ _ _ _ _ h => h)
  case F =>
    intro w mg fa h Y KX G hmg
    have hT := PySem.W.km_tabs_of Y
    refine LamX.LawAtS.of (sp := Ic.spLaw 268 _) (cs := ([(270, 268)] : List (Addr × Addr))) ?lawAt9 (fun _ a ns hl hH hS => ⟨a, ns, rfl, hS, hl, hH (270, 268) (.head _), fun _ => rfl⟩) (fun p hp => by rw [List.mem_singleton.mp hp]; exact hT 268 (.head _)) (fun p hp => by rw [List.mem_singleton.mp hp]; kernel_rfl) (fun p hp => by rw [List.mem_singleton.mp hp]; exact PySem.W.codeHd_of_K KX (by kernel_rfl))
    refine' Ic.all_mk' KX G hmg ?a0 ?a2 ?l3 ?c3 ?k3 ?z4 ?a6 ?e9 ?e10 ?e11 ?e12 ?e13 ?e14 ?e15 ?e16 ?e17 ?e18 ?e19 ?e20 ?e21 ?e22 ?e23 ?e24 ?e25 ?e26 ?e27 ?e28 ?e29 ?a31 ?e34 ?e35 ?e36 ?e37 ?e38 ?e39 ?e40 ?e41 ?e42 ?e43 ?e44 ?e45 ?e46 ?e47 ?e48 ?e49 ?e50 ?e51 ?e52 ?e53 ?e54 ?z55 ?a58 ?r59 ?s60 ?q61 ?q62 ?q63 ?q64 ?z65 ?q67 ?q68 ?q69 ?q70 ?l71 ?c71 ?k71 ?z74 ?r75 ?l77 ?c77 ?k77 ?z80 ?r81 ?l83 ?c83 ?k83 ?q85 ?q86 ?l87 ?c87 ?k87 ?q89 ?q90 ?l91 ?c91 ?k91 ?q93 ?q94 ?l95 ?c95 ?k95 ?q97 ?q98 ?l99 ?c99 ?k99 ?q101 ?q102 ?l103 ?c103 ?k103 ?q105 ?q106 ?l107 ?c107 ?k107 ?z108 ?a110 ?l111 ?c111 ?k111 ?a113 ?l114 ?c114 ?k114 ?a116 ?l117 ?c117 ?k117 ?a119 ?l120 ?c120 ?k120 ?a122 ?l123 ?c123 ?k123 ?a125 ?l126 ?c126 ?k126 ?a128 ?l129 ?c129 ?k129 ?a131 ?l132 ?c132 ?k132 ?a134 ?l135 ?c135 ?k135 ?a137 ?l138 ?c138 ?k138 ?l139 ?c139 ?k139 ?z140 ?z141 ?z142 ?z143 ?z144 ?z145 ?z146 ?z147 ?z148 ?z149 ?z150 ?a152 ?z153 ?x154
    (case a0 => k_is)
    (case a2 => k_is)
    (case l3 => k_is)
    (case c3 => k_is)
    (case k3 => k_is)
    (case z4 => k_is)
    (case a6 => k_is)
    (case e9 => k_is)
    (case e10 => kernel_rfl)
    (case e11 => k_is)
    (case e12 => k_is)
    (case e13 => k_is)
    (case e14 => k_is)
    (case e15 => k_is)
    (case e16 => k_is)
    (case e17 => k_is)
    (case e18 => k_is)
    (case e19 => k_is)
    (case e20 => k_is)
    (case e21 => kernel_rfl)
    (case e22 => k_is)
    (case e23 => kernel_rfl)
    (case e24 => k_is)
    (case e25 => k_is)
    (case e26 => k_is)
    (case e27 => exact rfl)
    (case e28 => k_is)
    (case e29 => k_is)
    (case a31 => k_is)
    (case e34 => k_is)
    (case e35 => kernel_rfl)
    (case e36 => k_is)
    (case e37 => k_is)
    (case e38 => k_is)
    (case e39 => k_is)
    (case e40 => k_is)
    (case e41 => k_is)
    (case e42 => k_is)
    (case e43 => k_is)
    (case e44 => k_is)
    (case e45 => k_is)
    (case e46 => kernel_rfl)
    (case e47 => k_is)
    (case e48 => kernel_rfl)
    (case e49 => k_is)
    (case e50 => k_is)
    (case e51 => k_is)
    (case e52 => exact rfl)
    (case e53 => k_is)
    (case e54 => k_is)
    (case z55 => k_is)
    (case a58 => k_is)
    (case r59 => k_is)
    (case s60 => k_is)
    (case q61 => k_is)
    (case q62 => k_is)
    (case q63 => k_is)
    (case q64 => k_is)
    (case z65 => k_is)
    (case q67 => k_is)
    (case q68 => k_is)
    (case q69 => k_is)
    (case q70 => k_is)
    (case l71 => k_is)
    (case c71 => k_is)
    (case k71 => k_is)
    (case z74 => k_is)
    (case r75 => k_is)
    (case l77 => k_is)
    (case c77 => k_is)
    (case k77 => k_is)
    (case z80 => k_is)
    (case r81 => k_is)
    (case l83 => k_is)
    (case c83 => k_is)
    (case k83 => k_is)
    (case q85 => k_is)
    (case q86 => k_is)
    (case l87 => k_is)
    (case c87 => k_is)
    (case k87 => k_is)
    (case q89 => k_is)
    (case q90 => k_is)
    (case l91 => k_is)
    (case c91 => k_is)
    (case k91 => k_is)
    (case q93 => k_is)
    (case q94 => k_is)
    (case l95 => k_is)
    (case c95 => k_is)
    (case k95 => k_is)
    (case q97 => k_is)
    (case q98 => k_is)
    (case l99 => k_is)
    (case c99 => k_is)
    (case k99 => k_is)
    (case q101 => k_is)
    (case q102 => k_is)
    (case l103 => k_is)
    (case c103 => k_is)
    (case k103 => k_is)
    (case q105 => k_is)
    (case q106 => k_is)
    (case l107 => k_is)
    (case c107 => k_is)
    (case k107 => k_is)
    (case z108 => k_is)
    (case a110 => k_is)
    (case l111 => k_is)
    (case c111 => k_is)
    (case k111 => k_is)
    (case a113 => k_is)
    (case l114 => k_is)
    (case c114 => k_is)
    (case k114 => k_is)
    (case a116 => k_is)
    (case l117 => k_is)
    (case c117 => k_is)
    (case k117 => k_is)
    (case a119 => k_is)
    (case l120 => k_is)
    (case c120 => k_is)
    (case k120 => k_is)
    (case a122 => k_is)
    (case l123 => k_is)
    (case c123 => k_is)
    (case k123 => k_is)
    (case a125 => k_is)
    (case l126 => k_is)
    (case c126 => k_is)
    (case k126 => k_is)
    (case a128 => k_is)
    (case l129 => k_is)
    (case c129 => k_is)
    (case k129 => k_is)
    (case a131 => k_is)
    (case l132 => k_is)
    (case c132 => k_is)
    (case k132 => k_is)
    (case a134 => k_is)
    (case l135 => k_is)
    (case c135 => k_is)
    (case k135 => k_is)
    (case a137 => k_is)
    (case l138 => k_is)
    (case c138 => k_is)
    (case k138 => k_is)
    (case l139 => k_is)
    (case c139 => k_is)
    (case k139 => k_is)
    (case z140 => k_is)
    (case z141 => k_is)
    (case z142 => k_is)
    (case z143 => k_is)
    (case z144 => k_is)
    (case z145 => k_is)
    (case z146 => k_is)
    (case z147 => k_is)
    (case z148 => k_is)
    (case z149 => k_is)
    (case z150 => k_is)
    (case a152 => k_is)
    (case z153 => kernel_rfl)
    (case x154 => exact rfl)
#print axioms PySem.Challenge.cw_innercommits_k18_rules_refused_holds
