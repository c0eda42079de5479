import PyProof.Rows.All
import Wide.All
import OpenK.AllK
import Wide.FinOn
import HandS.ForMost
import HandS.EndBits
import HandS.Wide
import HandS.IsInst
import HandS.Style
import HandS.Walk
import HandS.ClsMeth
import HandS.Conv
import HandS.ForExc
import HandS.ExcInit
import HandS.CallSlots
import HandS.Defaults
import HandS.ExcField
import HandS.Property
import HandS.WordsExc
import HandS.TryMany
import KE.KExcSuper
import HandS.HotCalls
import HandS.Dict
import HandS.Set
import HandS.SetBool
import HandS.SetFor
import HandS.Strs
import HandS.More
import PyProof.Rows.SortShellAny
import PyProof.Rows.SetFrom
import PyProof.Rows.SetObj
import HandS.TryOnly
import HandS.Star
import HandS.TupAny
import KE.KOpsOwn
import HandS.Zip
import HandS.SetBool
import KE.KCallOwn
import HandS.FStr
import PyProof.InstEq
import PySem.Challenge.RW_innercommits_k16_rules_that_are_equal

set_option Elab.async false
set_option linter.all false
set_option maxRecDepth 100000
set_option maxHeartbeats 4000000
namespace Ic
open PySem L2
def top (i : Nat) : Stmt := PySem.Challenge.pw_innercommits_k16_rules_that_are_equal.main.body.getD i (.Pass ⟨0, 0, 0, 0⟩)
abbrev P : Program := PySem.Challenge.pw_innercommits_k16_rules_that_are_equal
/-! ### heaps -/
theorem sz_le {n m : Nat} (h : Nat.ble n m = true) : n ≤ m := Nat.le_of_ble_eq_true h
theorem sz_lt {n m : Nat} (h : Nat.blt n m = true) : n < m := Nat.le_of_ble_eq_true h
theorem upd_old {H : Hp} {p a : Addr} {o u : HO} (h : H a = some u) (hp : H p = none) : upd H p o a = some u := by
  rw [upd_ne (ne_of_none h hp)]; exact h
theorem upd_oth {H : Hp} {p a : Addr} {o u : HO} (hn : a ≠ p) (h : H a = some u) : upd H p o a = some u := by
  rw [upd_ne hn]; exact h
theorem cmul_l {i j : Int} (h : (decide (-(2 ^ 64) < i) && decide (i < 2 ^ 64)) = true) : CMul i j := by
  simp only [Bool.and_eq_true, decide_eq_true_eq] at h
  exact .inl h
theorem cmul_r {i j : Int} (h : (decide (-(2 ^ 64) < j) && decide (j < 2 ^ 64)) = true) : CMul i j := by
  simp only [Bool.and_eq_true, decide_eq_true_eq] at h
  exact .inr h
theorem cpow_lit {i j : Int} (h : (decide (0 ≤ j) && decide (j ≤ 1000000) && decide (i.natAbs < 2 ^ 64)) = true) : CPow i j := by
  simp only [Bool.and_eq_true, decide_eq_true_eq] at h
  exact ⟨h.1.1, h.1.2, h.2⟩
theorem cdiv_lit {i j : Int} (h : (decide (0 < j) && decide (j < 1073741824)) = true) : CDivW i j := by
  simp only [Bool.and_eq_true, decide_eq_true_eq] at h
  exact wide_div (b := 40) h.1 (by omega) (by decide) (by decide)
theorem none_upd {H : Hp} {p b : Addr} {o : HO} (h : upd H p o b = none) : b ≠ p ∧ H b = none := by
  by_cases e : b = p
  · rw [e, upd_same] at h; cases h
  · exact ⟨e, by rw [upd_ne e] at h; exact h⟩
/-- all that was tracked, but S, is as it was -/
def Kp (S : Addr → Prop) (H H' : Hp) : Prop := ∀ b u, H b = some u → ¬ S b → H' b = some u
theorem Kp.refl {S : Addr → Prop} {H : Hp} : Kp S H H := fun _ _ h _ => h
theorem Kp.trans {S : Addr → Prop} {H H1 H2 : Hp} (a : Kp S H H1) (b : Kp S H1 H2) : Kp S H H2 := fun c u h n => b c u (a c u h n) n
theorem Kp.new {S : Addr → Prop} {H H1 : Hp} {p : Addr} {o : HO} (a : Kp S H H1) (h : H1 p = none) : Kp S H (upd H1 p o) := fun c u e n => upd_old (a c u e n) h
theorem Kp.set {S : Addr → Prop} {H H1 : Hp} {p : Addr} {o : HO} (a : Kp S H H1) (h : S p) : Kp S H (upd H1 p o) := fun c u e n => upd_oth (fun z => n (z ▸ h)) (a c u e n)
theorem Kp.set1 {H H1 : Hp} {p : Addr} {o : HO} (a : Kp (fun b => b = p) H H1) : Kp (fun b => b = p) H (upd H1 p o) := a.set rfl
/-- p is none of H's -/
theorem Kp.fresh {S : Addr → Prop} {H H1 : Hp} {p : Addr} {o : HO} (a : Kp S H H1) (h : H p = none) : Kp S H (upd H1 p o) := fun c u e n => upd_oth (ne_of_none e h) (a c u e n)
theorem Kp.mono {S S' : Addr → Prop} {H H1 : Hp} (a : Kp S H H1) (h : ∀ b, S b → S' b) : Kp S' H H1 := fun c u e n => a c u e fun z => n (h c z)
theorem Kp.same {S : Addr → Prop} {H H1 H2 : Hp} (a : Same H H1) (b : Kp S H1 H2) (n : ∀ c, S c → H c = none) : Same H H2 := fun c u h => b c u (a c u h) fun z => by
  rw [n c z] at h; cases h
theorem Kp.of_same {S : Addr → Prop} {H H1 : Hp} (a : Same H H1) : Kp S H H1 := fun c u h _ => a c u h
theorem _root_.L2.Same.new {H H1 : Hp} {p : Addr} {o : HO} (a : Same H H1) (h : H1 p = none) : Same H (upd H1 p o) := fun c u e => upd_old (a c u e) h
theorem _root_.L2.Same.frsh {H H1 : Hp} {p : Addr} {o : HO} (a : Same H H1) (h : H p = none) : Same H (upd H1 p o) := fun c u e => upd_oth (ne_of_none e h) (a c u e)
theorem tyV_lst {K : PySem.W.Frag} {H : Hp} {p : Addr} {xs : List V} (h : SqL K H p xs) : tyV K "list" (.ref p) H := .inl ⟨rfl, xs, h⟩
class RdTy (α : Type) : Prop
instance : RdTy V := ⟨⟩
instance : RdTy Int := ⟨⟩
instance : RdTy Nat := ⟨⟩
instance : RdTy Bool := ⟨⟩
instance : RdTy Str := ⟨⟩
instance : RdTy HO := ⟨⟩
instance : RdTy Value := ⟨⟩
instance : RdTy Obj := ⟨⟩
instance {α : Type} : RdTy (List α) := ⟨⟩
instance {α : Type} : RdTy (Array α) := ⟨⟩
instance {α β : Type} : RdTy (Sum α β) := ⟨⟩
theorem exI {α : Type} [RdTy α] {p : α → Prop} (w : α) (h : p w) : Exists p := ⟨w, h⟩
/-! ### the pool -/
def PoolO (o : HO) (c : Nat) : Prop := ∃ a b n : Int, o = .lst [.int a, .int b, .int n] ∧ 0 ≤ a ∧ 0 ≤ b ∧ b < 2 ^ 62 ∧ 0 ≤ n ∧ n ≤ c
def PoolAt (H : Hp) (p : Addr) (c : Nat) : Prop := ∃ o, H p = some o ∧ PoolO o c
theorem PoolO.mono {o : HO} {c d : Nat} (h : PoolO o c) (l : c ≤ d) : PoolO o d := by
  obtain ⟨a, b, n, e, h1, h2, h3, h4, h5⟩ := h
  exact ⟨a, b, n, e, h1, h2, h3, h4, by omega⟩
def spPool (K : PySem.W.Frag) : Sp := fun vs H Q _ => ∃ (a : Addr) (ns : List Int) (i : Nat), vs = [.ref a, .int (i : Int)] ∧ SqL K H a (ns.map V.int) ∧ i < 1000 ∧
  ∀ p o, H p = none → PoolO o 0 → Q (.ref p) (upd H p o)
def spDraw : Sp := fun vs H Q _ => ∃ (p : Addr) (m : Int) (c : Nat) (o : HO), vs = [.ref p, .int m] ∧ H p = some o ∧ PoolO o c ∧ 0 < m ∧ m < 2 ^ 200 ∧ c < 2 ^ 40 ∧
  ∀ r o', 0 ≤ r → r < m → PoolO o' (c + 1) → Q (.int r) (upd H p o')
local macro_rules | `(tactic| walk_at "hp") => `(tactic| first | with_reducible assumption | with_reducible exact upd_same | (with_reducible apply upd_old; (focus (walk_at "hp")); (focus with_reducible assumption)) | (with_reducible apply upd_oth; (focus (first | with_reducible assumption | (with_reducible apply Ne.symm; with_reducible assumption))); walk_at "hp"))
local macro_rules | `(tactic| walk_at "sq") => `(tactic| first | with_reducible assumption | (with_reducible apply SqL.of; walk_at "hp") | (with_reducible apply SqT.of; walk_at "hp"))
local macro_rules | `(tactic| walk_at "side") => `(tactic| first | with_reducible assumption | exact ⟨_, rfl⟩ | walk_at "hp" | walk_at "sq" | (with_reducible apply tyV_lst; walk_at "sq") | (with_reducible apply Or.inl; walk_at "sq") | (with_reducible apply Or.inr; walk_at "sq") | with_reducible exact cmul_l (by decide) | with_reducible exact cmul_r (by decide) | with_reducible exact cpow_lit (by decide) | with_reducible exact cdiv_lit (by decide) | decide | exact sz_le rfl | exact sz_lt rfl | omega)
local macro_rules | `(tactic| walk_at "kp") => `(tactic| first | with_reducible assumption | with_reducible exact Kp.refl | (with_reducible apply Kp.set1; walk_at "kp") | (with_reducible apply Kp.new; (focus (walk_at "kp")); (focus with_reducible assumption)) | (with_reducible apply Kp.fresh; (focus (walk_at "kp")); (focus with_reducible assumption)))
local macro_rules | `(tactic| walk_at "rd1") => `(tactic| first
  | refine And.intro rfl ?_
  | apply exI
  | (refine Or.inl ?_; apply exI; refine And.intro rfl ?_)
  | (refine Or.inr ?_; apply exI; refine And.intro rfl ?_)
  | (refine And.intro ?_ ?_; (focus (walk_at "side"))))
local macro_rules | `(tactic| walk_at "rd") => `(tactic| repeat (walk_at "rd1"))
/-! ### further rules: a staticmethod called off its class, list of a text -/
/-- C.m is a staticmethod: its record at p, its def at f -/
structure SMet (K : PySem.W.Frag) (C : Addr) (mc : Value) (m : Str) (p f : Addr) : Prop where
  at_ : PySem.W.findCls K (.ref C) mc m = some (.get (.builtin "staticmethod.__get__") (.ref p) .none (.ref C))
  rc : ∃ rest, PySem.W.recIn K p "staticmethod" = some (.ref f :: rest)
def tSMeth (C : Addr) (sp : Sp) (dvs : List V) (E : XK) (ta : TE) (t : TA) : TE := fun σ H Q => ta σ H fun x H1 => x = .ref C ∧ t σ H1 fun vs H2 => sp (vs ++ dvs) H2 Q E
theorem pe_smeth {X : Cx} {CX : CXT} {k : Nat} {C p f : Addr} {fd : FuncData} {ps : List Str} {ds : List Value} {dvs : List V} {mc : Value} {sp : Sp} {E : XK} {o e : Expr} {es : List Expr} {m : Str} {pos apos : Pos} {ta : TE} {t : TA} {pl : Sem Bool}
    (he : PE X o ta) (r : ClX.CRead X.K C mc) (c : SMet X.K C mc m p f) (F : FnOk X.prog X.w X.K X.mg X.base CX k f fd ps sp) (hr : Room k X.A) (hk : PySem.W.keepIn X.K (.ref f) = true) (hb : Binds X.K fd ps ds) (hd : Vals dvs ds) (hx : Passes CX X E) (ha : PA X (e :: es) t)
    (hst : starEach (e :: es) X.env = (false, eval e X.env) :: starEach es X.env := by rfl) (hpl : (backTo pos (starEach es X.env)).any (·.1) = false := by rfl)
    (ht : eval (.Call (.Attribute o m apos) (e :: es) [] pos) X.env = (do
      let ov ← eval o X.env
      standAt apos.atName
      let (f, first) ← holding [ov] (getMethod ov m pl)
      callWith pos f first (backTo pos (starEach (e :: es) X.env)) (backToKw pos (keywordEach [] X.env))) := by rfl) :
    PE X (.Call (.Attribute o m apos) (e :: es) [] pos) (tSMeth C sp dvs E ta t) := by
  refine ⟨fun pins s σ H Q I h => ?_⟩
  refine PySem.W.methodCall_KW (pl := pl) (thn (he.run pins s σ H _ I h) fun u s1 ⟨x, H1, I1, rx, ex, q⟩ => ?_) ht
  subst ex
  obtain rfl : u = Value.ref C := rx
  obtain ⟨rest, hp⟩ := c.rc
  refine PySem.W.method_cls I1.kIn r.ga (PySem.W.cls_bind I1.kIn r.rd c.at_ ?_)
  refine wpAny_call (PySem.W.sm_get (s := { s1 with toks := s1.toks + 1 }) I1.kIn hp (PySem.W.handed_on rfl ?_))
  have I2 := I1.tok (s1.toks + 1)
  refine PySem.W.callWith_K (h₀ := X.base) (first := []) I2.ok.mod.kin hk (thn (ha.run pos pins _ σ H1 _ I2 q) fun us s3 ⟨vs, H2, I3, rv, q2⟩ => ⟨I3.kIn, ?_⟩) hst hpl
  exact run_fn F hr hb hd hx I3 rv q2
theorem call_list_text {X : Cx} (hc : X.calm = true) : CallR X (.type "list") (fun xs H Q => ∃ z : Str, xs = [.str z] ∧ z.length ≤ sizeLine ∧ ∀ l, H l = none → Q (.ref l) (upd H l (.lst (z.cps.toList.map fun c => .str ⟨#[c]⟩)))) := by
  intro pins s σ H xs us Q I r h
  obtain ⟨z, rfl, hz, q⟩ := h
  obtain ⟨u, rfl, t, rfl⟩ := vals1 r
  refine call_list_str (I.ok.hd hc) z t (fun h' tk acc c' kp e it => ?_) hz
  have hv : Vals (z.cps.toList.map fun c => V.str ⟨#[c]⟩) acc.toList := by
    refine vals_of_at (by rw [List.length_map, Array.length_toList, Array.length_toList, it.1]) fun j x u e1 e2 => ?_
    rw [Array.getElem?_toList] at e2
    obtain ⟨c, tk, hc1, rfl⟩ := it.2 j u e2
    rw [List.getElem?_map, Array.getElem?_toList, hc1] at e1
    cases e1
    exact ⟨tk, rfl⟩
  refine ⟨.ref s.heap.objs.size, _, I.laid (o := .lst (z.cps.toList.map fun c => V.str ⟨#[c]⟩)) (t' := tk) kp (Nat.le_refl _) ?_, rfl, q _ (I.hok.fresh (Nat.le_refl _))⟩
  exact ⟨by rw [List.length_map, Array.length_toList]; exact hz, acc.toList, c', hv, by simpa using e⟩
/-! ### data: == of lists and tuples -/
theorem eqvAll_nil {ds : List PyData} : PyData.eqvAll ds [] = ds.isEmpty := by
  cases ds <;> rfl
def asc (z : Str) : Prop := ∀ c ∈ z.cps.toList, c < 128
theorem asc_ok {z : Str} (h : asc z) : PyData.strOk z = true := by
  unfold PyData.strOk
  rw [Array.all_eq_true]
  intro i hi
  have := h z.cps[i] (by rw [Array.mem_toList_iff]; exact Array.getElem_mem hi)
  simp; omega
theorem dp_strs {K : PySem.W.Frag} {H : Hp} : ∀ ys : List Str, DpAll K H (ys.map V.str) (ys.map PyData.str)
  | [] => .nil
  | y :: r => .cons (.str y) (dp_strs r)
theorem lay_strs : ∀ {ys : List Str}, (∀ y ∈ ys, asc y) → PyData.canLayAll0 (ys.map PyData.str) = true
  | [], _ => rfl
  | y :: r, h => by
    show (PyData.strOk y && PyData.canLayAll0 (r.map PyData.str)) = true
    rw [asc_ok (h y List.mem_cons_self), lay_strs fun z hz => h z (List.mem_cons_of_mem _ hz)]; rfl
theorem depth_strs : ∀ ys : List Str, PyData.depthAll (ys.map PyData.str) = 0
  | [] => rfl
  | y :: r => by
    show max 0 (PyData.depthAll (r.map PyData.str)) = 0
    rw [depth_strs r]; rfl
theorem shaped_strs {ys : List Str} (h : ∀ y ∈ ys, asc y) : SeqAt.shaped (.list (ys.map PyData.str)) = true := by
  show (PyData.canLayAll0 (ys.map PyData.str) && decide (PyData.depthAll (ys.map PyData.str) + 1 ≤ 64)) = true
  rw [lay_strs h, depth_strs]; rfl
/-! ### letters -/
def Lets (cs : List Nat) : Prop := ∀ c ∈ cs, 97 ≤ c ∧ c ≤ 122
def chr1 (c : Nat) : Str := ⟨#[c]⟩
structure IsWord (w : Str) : Prop where
  lo : 1 ≤ w.cps.toList.length
  hi : w.cps.toList.length ≤ 8
  al : Lets w.cps.toList
def alpha : Str := "abcdefghijklmnopqrstuvwxyz"
theorem alpha_all : ∀ n : Nat, n < 26 → alpha.cps.toList[n]? = some (97 + n) := by
  have h : (List.range 26).all (fun n => decide (alpha.cps.toList[n]? = some (97 + n))) = true := by decide +kernel
  intro n hn
  exact of_decide_eq_true (List.all_eq_true.mp h n (List.mem_range.mpr hn))
theorem alpha_at {r : Int} (h0 : 0 ≤ r) (h1 : r < 26) : atI alpha.cps.toList r = some (97 + r.toNat) := by
  have e : ((r.toNat : Nat) : Int) = r := by omega
  have h := atI_nat (alpha_all r.toNat (by omega))
  rw [e] at h
  exact h
theorem join_chr : ∀ cs : List Nat, Txt.join (Str.ofString "") (cs.map chr1) = ⟨cs.toArray⟩ := by
  intro cs
  show Builtin.Str.glued (Str.ofString "") (cs.map chr1) = _
  rw [StrLaws.glued_eq_join]
  have e0 : (Str.ofString "") = Str.empty := by decide +kernel
  rw [e0]
  induction cs with
  | nil => rfl
  | cons c r ih =>
    cases r with
    | nil => rfl
    | cons b r =>
      show chr1 c ++ Str.empty ++ Str.join Str.empty ((b :: r).map chr1) = _
      rw [ih]
      show (⟨(#[c] ++ #[]) ++ (b :: r).toArray⟩ : Str) = ⟨(c :: b :: r).toArray⟩
      simp
theorem sum_chr : ∀ cs : List Nat, ((cs.map chr1).map (·.length)).sum = cs.length
  | [] => rfl
  | c :: r => by
    show 1 + ((r.map chr1).map (·.length)).sum = r.length + 1
    rw [sum_chr r]; omega
theorem alpha_len : alpha.length ≤ sizeLine := by decide +kernel
/-- [letters[draw(pool, 26)] for k in range(n)] -/
theorem lc_letters {n i0 i1 ik : Nat} {σ : St} {H1 : Hp} {D p : Addr} {o : HO} {c : Nat} {Qd : Hp → Prop} (hD : H1 D = none) (hp : H1 p = some o) (hc : PoolO o c) (hb : c + n < 2 ^ 40) (hn : n < 1000000)
    (s0 : σ[i0]? = some (some (.ref p))) (s1 : σ[i1]? = some (some (.str alpha))) (n0 : i0 ≠ ik) (n1 : i1 ≠ ik)
    (q : ∀ H' cs o', cs.length = n → Lets cs → Kp (fun b => b = p) H1 H' → H' p = some o' → PoolO o' (c + n) → H' D = some (.lst ((cs.map chr1).map V.str)) → Qd H') :
    ∃ W : Nat → Nat → Hp → Prop, (∃ m, W 0 m (upd H1 D (.lst []))) ∧ ∀ i m H, W i m H →
      ((Itr 0 n).stop i H ∧ Qd H) ∨ ((Itr 0 n).go i H ∧ ∃ Nx : Hp → Prop, (∀ H', Nx H' → ∃ m', m' < m ∧ W (i + 1) m' H') ∧ ∀ x H', (Itr 0 n).yld i H x H' → gName ik x (wipe σ [ik]) H' fun σ2 H2 => wipe σ2 [ik] = wipe σ [ik] ∧ tYes σ2 H2 fun b H3 =>
        if b = true then tOp rIxS (tVar i1) (tCall spDraw [] E0 (tCons (tVar i0) (tCons (tC (.int 26)) tNil))) σ2 H3 fun y H4 => ∃ acc, H4 D = some (.lst acc) ∧ acc.length < sizeLine ∧ Nx (upd H4 D (.lst (acc ++ [y]))) else Nx H3) := by
  have npD : p ≠ D := ne_of_none hp hD
  have w0 : ∀ v, ((wipe σ [ik]).set ik (some v))[i0]? = some (some (.ref p)) := fun v => by
    rw [List.getElem?_set_ne (Ne.symm n0), wipe_out (by simp [n0])]; exact s0
  have w1 : ∀ v, ((wipe σ [ik]).set ik (some v))[i1]? = some (some (.str alpha)) := fun v => by
    rw [List.getElem?_set_ne (Ne.symm n1), wipe_out (by simp [n1])]; exact s1
  refine lc_range (fun i H => ∃ cs o', cs.length = i ∧ Lets cs ∧ Kp (fun b => b = p) H1 H ∧ H p = some o' ∧ PoolO o' (c + i) ∧ H D = some (.lst ((cs.map chr1).map V.str))) ?_ ?_ ?_
  · exact ⟨[], o, rfl, (fun _ h => nomatch h), Kp.refl.new hD, upd_old hp hD, hc, upd_same⟩
  · rintro i H hi ⟨cs, o', e1, e2, e3, e4, e5, e6⟩
    refine ⟨?_, ?_⟩
    · show wipe ((wipe σ [ik]).set ik _) [ik] = wipe σ [ik]
      show (((σ.set ik none).set ik _).set ik none) = σ.set ik none
      rw [List.set_set, List.set_set]
    · refine ⟨_, w1 _, _, w0 _, p, 26, c + i, o', rfl, e4, e5, by decide, by decide, by omega, fun r o2 r0 r1 h2 => ?_⟩
      refine ⟨alpha, r, _, rfl, rfl, alpha_len, alpha_at r0 r1, (cs.map chr1).map V.str, upd_oth (Ne.symm npD) e6, ?_, ?_⟩
      · rw [List.length_map, List.length_map, e1, sizeLine_eq]; omega
      · refine ⟨cs ++ [97 + r.toNat], o2, ?_, ?_, ?_, ?_, h2, ?_⟩
        · rw [List.length_append, e1]; rfl
        · intro x hx
          rcases List.mem_append.mp hx with h | h
          · exact e2 x h
          · rw [List.mem_singleton] at h
            subst h
            omega
        · exact (e3.set rfl).fresh hD
        · exact upd_oth npD upd_same
        · rw [upd_same, List.map_append, List.map_append]; rfl
  · rintro H ⟨cs, o', e1, e2, e3, e4, e5, e6⟩
    exact q H cs o' e1 e2 e3 e4 e5 e6
def spWord : Sp := fun vs H Q _ => ∃ (p : Addr) (c : Nat) (o : HO), vs = [.ref p] ∧ H p = some o ∧ PoolO o c ∧ c < 2 ^ 39 ∧
  ∀ w o' H', IsWord w → PoolO o' (c + 9) → H' p = some o' → Kp (fun b => b = p) H H' → Q (.str w) H'
/-! ### words -/
def okC (c : Nat) : Bool := decide (97 ≤ c) && decide (c ≤ 122)
def wordS (z : Str) : Bool := decide (1 ≤ z.length) && decide (z.length ≤ 8) && z.cps.toList.all okC
def wordB : V → Bool
  | .str z => wordS z
  | _ => false
inductive Thing (H : Hp) : V → Prop
  | str (z : Str) (h : z.length ≤ 1000) (ha : asc z) : Thing H (.str z)
  | int (i : Int) : Thing H (.int i)
  | bl (b : Bool) : Thing H (.bl b)
  | non : Thing H .non
  | lst {p : Addr} {xs : List V} (h : H p = some (.lst xs)) : Thing H (.ref p)
  | tup {p : Addr} {xs : List V} (h : H p = some (.tup xs)) : Thing H (.ref p)
theorem Thing.same {H H' : Hp} {v : V} (s : Same H H') (t : Thing H v) : Thing H' v := by
  cases t with
  | str z h ha => exact .str z h ha
  | int i => exact .int i
  | bl b => exact .bl b
  | non => exact .non
  | lst h => exact .lst (s _ _ h)
  | tup h => exact .tup (s _ _ h)
def strB : V → Bool
  | .str _ => true
  | _ => false
theorem Thing.isi {K : PySem.W.Frag} {H : Hp} {v : V} (t : Thing H v) : ∃ ty, TyX K H v ty ∧ PySem.W.kitOne K ty (.type "str") = some (strB v) := by
  cases t with
  | str z h ha => exact ⟨_, .base (.str z), kit_ty (show kitB "str" "str" = some true by decide +kernel)⟩
  | int i => exact ⟨_, .base (.int i), kit_ty (show kitB "int" "str" = some false by decide +kernel)⟩
  | bl b => exact ⟨_, .base (.bl b), kit_ty (show kitB "bool" "str" = some false by decide +kernel)⟩
  | non => exact ⟨_, .base .non, kit_ty (by decide +kernel)⟩
  | lst h => exact ⟨_, .base (.lst h), kit_ty (show kitB "list" "str" = some false by decide +kernel)⟩
  | tup h => exact ⟨_, .base (.tup h), kit_ty (show kitB "tuple" "str" = some false by decide +kernel)⟩
theorem list1_lt (a b : Nat) : ([a] : List Nat) < [b] ↔ a < b := by
  constructor
  · intro h
    cases h with
    | rel h => exact h
    | cons h => cases h
  · intro h
    exact .rel h
theorem le_a (c : Nat) : (!decide ((⟨#[c]⟩ : Str).cps.toList < (Str.ofString "a").cps.toList)) = decide (97 ≤ c) := by
  have e : (Str.ofString "a").cps.toList = [97] := by decide +kernel
  rw [e, ← decide_not]
  apply decide_eq_decide.mpr
  show ¬ ([c] < [97]) ↔ _
  rw [list1_lt]; omega
theorem le_z (c : Nat) : (!decide ((Str.ofString "z").cps.toList < (⟨#[c]⟩ : Str).cps.toList)) = decide (c ≤ 122) := by
  have e : (Str.ofString "z").cps.toList = [122] := by decide +kernel
  rw [e, ← decide_not]
  apply decide_eq_decide.mpr
  show ¬ ([122] < [c]) ↔ _
  rw [list1_lt]; omega
theorem all_take {α : Type} {p : α → Bool} {l : List α} {i : Nat} {x : α} (h : l[i]? = some x) (a : (l.take i).all p = true) (b : p x = true) : (l.take (i + 1)).all p = true := by
  rw [List.take_add_one, h, List.all_append, a, Bool.true_and]
  show ([x] : List α).all p = true
  rw [List.all_cons, b]; rfl
theorem all_no {α : Type} {p : α → Bool} {l : List α} {i : Nat} {x : α} (h : l[i]? = some x) (b : p x = false) : l.all p = false := by
  cases e : l.all p with
  | false => rfl
  | true =>
    rw [List.all_eq_true.mp e x (List.mem_of_getElem? h)] at b
    cases b
theorem len_toList (z : Str) : z.cps.toList.length = z.length := by simp [Str.length]
theorem IsWord.ok {w : Str} (h : IsWord w) : wordS w = true := by
  unfold wordS
  rw [← len_toList, decide_eq_true h.lo, decide_eq_true h.hi, Bool.true_and, Bool.true_and, List.all_eq_true]
  intro c hc
  have := h.al c hc
  unfold okC
  rw [decide_eq_true this.1, decide_eq_true this.2]; rfl
theorem wordS_of {z : Str} (h : wordS z = true) : IsWord z := by
  unfold wordS at h
  rw [Bool.and_eq_true, Bool.and_eq_true, decide_eq_true_eq, decide_eq_true_eq, List.all_eq_true] at h
  refine ⟨by rw [len_toList]; exact h.1.1, by rw [len_toList]; exact h.1.2, fun c hc => ?_⟩
  have := h.2 c hc
  unfold okC at this
  rw [Bool.and_eq_true, decide_eq_true_eq, decide_eq_true_eq] at this
  exact this
def spIsWord : Sp := fun vs H Q _ => ∃ v, vs = [v] ∧ Thing H v ∧ Q (.bl (wordB v)) H
/-! ### own errors: an __init__ that says super().__init__(text) and stores fields -/
/-- the stores of an __init__: self.F = a parameter | a text -/
inductive Sts (ps : List Str) : List Stmt → List (Str × Sum Nat Str) → Prop
  | nil : Sts ps [] []
  | par {F p : Str} {i : Nat} {q1 q2 q3 q4 : Pos} {r : List Stmt} {fs : List (Str × Sum Nat Str)} (h : ps[i]? = some p) (t : Sts ps r fs) : Sts ps (.Assign [.Attribute (.Name "self" q1) F q2] (.Name p q3) q4 :: r) ((F, .inl i) :: fs)
  | con {F c : Str} {j : Nat} {q1 q2 q3 q4 : Pos} {r : List Stmt} {fs : List (Str × Sum Nat Str)} (t : Sts ps r fs) : Sts ps (.Assign [.Attribute (.Name "self" q1) F q2] (.Constant (.str c) j q3) q4 :: r) ((F, .inr c) :: fs)
def fldV (vs : List V) : Sum Nat Str → V
  | .inl i => vs.getD i .non
  | .inr c => .str c
def errF (vs : List V) : List (Str × Sum Nat Str) → List (Str × V) → List (Str × V)
  | [], acc => acc
  | p :: r, acc => errF vs r ((p.1, fldV vs p.2) :: acc)
/-- an exception while its __init__ runs -/
structure ErrAt (h0 h : Heap) (x C L : Addr) (m : Str → Option Value) (acc : List (Str × V)) (dd : Option Addr) : Prop where
  keep : ∀ b o, b ≠ x → h0.get? b = some o → h.get? b = some o
  sz : h0.objs.size ≤ h.objs.size
  ns : h.Ns L m
  obj : ∃ t1 : Addr, h.get? x = some ({ cls := .ref C, dict := dd, data := .fields #[.ref t1, .none, .none, .none, .bool false, .none] } : Obj)
  dct : match dd with | none => acc = [] | some dx => acc ≠ [] ∧ h0.objs.size ≤ dx ∧ dx ≠ x ∧ dx ≠ L ∧ ∃ mA, h.Ns1 dx mA ∧ ∀ f, RelO (acc.lookup f) (mA f)
theorem kept_but {K : PySem.W.Frag} {h h' : Heap} {x : Addr} (X : K.In h) (hx : K.lookup x = none) (k : ∀ b o, b ≠ x → h.get? b = some o → h'.get? b = some o) : K.In h' := fun a o e =>
  k a o (fun z => by rw [z, hx] at e; cases e) (X a o e)
/-- what the written part says of an error's class, at C; its __init__ at fI -/
structure ErrC (P : Program) (K : PySem.W.Frag) (C fI : Addr) (st : Stmt) (q : Str) (ps : List Str) (fs : List (Str × Sum Nat Str)) : Prop where
  cls : ∃ nm qn N bs bm sn sub ab col dd k0 k1 k2 k3 k5, K.lookup C = some (excClassObj nm qn C N bs bm true sn sub ab col dd k0 k1 k2 k3 k5 "ValueError.__new__") ∧ PySem.HandSPX.refsVE bm = true
  sa : PySem.W.findIn K (.ref C) "__setattr__" = some (some (.builtin "object.__setattr__"))
  ga : PySem.W.findIn K (.ref C) "__getattribute__" = some (some (.builtin "BaseException.__getattribute__"))
  gg : PySem.W.findIn K (.ref C) "__getattr__" = some none
  noF : ∀ p ∈ fs, PySem.W.findIn K (.ref C) p.1 = some none
  iC : PySem.W.findIn K (.ref C) "__init__" = some (some (.ref fI))
  tC : PySem.W.typeIn K (.ref fI) = some (.type "function")
  kC : PySem.W.keepIn K (.ref C) = true
  exC : PySem.W.subIn K (.ref C) (.type "BaseException") = some true
  veC : PySem.W.subIn K (.ref C) (.type "ValueError") = some true
  tyC : PySem.W.typeIn K (.ref C) = some (.type "type")
  hdC : PySem.W.hasDictIn K C = true
  su : PySem.W.ks_superIn K C C "__init__" = some (some (.builtin "ValueError.__init__"))
  mro : PySem.W.mroIn K C (.ref C) = some true
  te : PySem.W.exmOne K (.ref C) (.ref C) = some true
  op : PySem.W.nsIn K cStatics "thirdparty.any" = some none
  fn : ∃ (oc : Value) (od : Option Addr) (doc pm : Value) (an : Option Addr) (cda cc : Addr) (ct : Value) (osl : Array (Option Value)) (ccl : Value) (cdd : Option Addr) (vs : Array Value) (ccs : Array (Option Value)) (tf : Tok) (cl : Value) (cld : Option Addr) (csl : Array (Option Value)),
    K.lookup fI = some ⟨oc, od, .func (PySem.W.ksFn "__init__" q (defArgs st) (defBody st) (defScope st) .none .none doc pm an (.ref cda) ct cc), osl⟩ ∧ PySem.W.codeIn K (.ref cda) q = true ∧
    K.lookup cda = some ⟨ccl, cdd, .fields vs, ccs⟩ ∧ vs[2]? = some (.str P.main.file tf) ∧ K.lookup cc = some ⟨cl, cld, .cell (some (.ref C)), csl⟩
  hd : ∃ ar : Arg, ((defArgs st).posonlyargs ++ (defArgs st).args).head? = some ar ∧ ar.arg = "self"
  bd : ∀ (doc pm : Value) (an : Option Addr) (cda cc : Addr) (ct : Value) (us : List Value), us.length = ps.length + 1 → bindArgs (PySem.W.ksFn "__init__" q (defArgs st) (defBody st) (defScope st) .none .none doc pm an (.ref cda) ct cc) ⟨us, []⟩ = pure ((("self" : Str) :: ps).zip us)
  bo : ∃ (p0 p1 p2 p3 p4 p5 : Pos) (j : Nat) (msg : Str) (sts : List Stmt), defBody st = .Expr (.Call (.Attribute (.Call (.Name "super" p0) [] [] p1) "__init__" p2) [.Constant (.str msg) j p3] [] p4) p5 :: sts ∧ Sts ps sts fs ∧
    ∀ (L cda cc : Addr), ∃ pl : Sem Bool, eval (.Call (.Attribute (.Call (.Name "super" p0) [] [] p1) "__init__" p2) [.Constant (.str msg) j p3] [] p4) (PySem.W.ksEnv q (defScope st) L fI (.ref cda) cc) = (do
      let ov ← attributeBase (.Call (.Name "super" p0) [] [] p1) "__init__" (PySem.W.ksEnv q (defScope st) L fI (.ref cda) cc) (eval (.Call (.Name "super" p0) [] [] p1) (PySem.W.ksEnv q (defScope st) L fI (.ref cda) cc))
      standAt p2.atName
      let (f, first) ← holding [ov] (getMethod ov "__init__" pl)
      callWith p4 f first (backTo p4 (starEach [.Constant (.str msg) j p3] (PySem.W.ksEnv q (defScope st) L fI (.ref cda) cc))) [])
  sck : (defScope st).kind = .function
  scc : (defScope st).isCoroutine = false
  scg : (defScope st).isGenerator = false
  scn : ∀ x ∈ (defScope st).names, x.2 ≠ .cell
  scl : ∀ x ∈ (("self" : Str) :: ps), (defScope st).names.lookup x = some .local
  scs : (defScope st).names.lookup ("super" : Str) = some .globalImplicit
  scf : (defScope st).names.lookup ("__class__" : Str) = some .free
  nd : (("self" : Str) :: ps).Nodup
  top : (P.main.scope.names.lookup ("super" : Str)).isSome = false
section
open PySem PySem.W PySem.Calls PyProof.Rows PySem.HandSPX
variable {prog : Program} {w : World} {A : Around} {K : PySem.W.Frag} {C fI : Addr} {st : Stmt} {q : Str} {ps : List Str} {fs : List (Str × Sum Nat Str)}
theorem err_stores (T : ErrC prog K C fI st q ps fs) {h0 : Heap} {x L : Addr} {m : Str → Option Value} {vs : List V} {env : Env} {E : Value → Shared → Prop} (X0 : K.In h0) (hnx : K.lookup x = none) (hLx : L ≠ x)
    (hself : m "self" = some (.ref x)) (hpar : ∀ (i : Nat) p, ps[i]? = some p → ∃ v u, vs[i]? = some v ∧ RelV v u ∧ m p = some u)
    (hk : env.scope.kind = .function) (hlo : env.locals = L) (hkl : ∀ y ∈ (("self" : Str) :: ps), env.kindOf y = some .local) (hdb : ∀ y ∈ (("self" : Str) :: ps), (y == ("__debug__" : Str)) = false) :
    ∀ {sts : List Stmt} {fs' : List (Str × Sum Nat Str)}, Sts ps sts fs' → (∀ p ∈ fs', p ∈ fs) → ∀ {acc : List (Str × V)} {dd : Option Addr} {s : Shared} {Q : Flow → Shared → Prop}, ErrAt h0 s.heap x C L m acc dd → acc.length + fs'.length ≤ 100 →
      (∀ h' tk dd', ErrAt h0 h' x C L m (errF vs fs' acc) dd' → Q .next { s with heap := h', toks := tk }) → wpAny (model prog w) A (execs sts env) Q E s := by
  obtain ⟨nm, qn, N, bs, bm, sn, sub, ab, col, dd0, k0, k1, k2, k3, k5, hC, hbm⟩ := T.cls
  have hcl : clsIn K C = some { name := nm, bases := bs, mro := .ref C :: bm, ns := N, qualname := qn, hasDict := true, slotNames := sn, subclasses := sub, abstract := ab, collection := col, hasDel := false } := by unfold clsIn; rw [hC] <;> rfl
  have ldl : ∀ {y : Str} {u : Value} {pos : Pos} {s : Shared} {Q : Value → Shared → Prop}, y ∈ (("self" : Str) :: ps) → s.heap.Ns L m → m y = some u → Q u s → wpAny (model prog w) A (eval (.Name y pos) env) Q E s :=
    fun {y u pos s Q} hy hn hv h => wpAny_Name (wpAny_loadName_local hk (hkl y hy) (by rw [hlo]; exact hn) hv h) (hdb y hy)
  have hsf : ("self" : Str) ∈ (("self" : Str) :: ps) := List.mem_cons_self
  -- one store
  have one : ∀ {F : Str} {y : V} {u : Value} {acc : List (Str × V)} {dd : Option Addr} {s : Shared} {Q : Unit → Shared → Prop}, findIn K (.ref C) F = some none → RelV y u → ErrAt h0 s.heap x C L m acc dd → acc.length ≤ 99 →
      (∀ h' tk dd', ErrAt h0 h' x C L m ((F, y) :: acc) dd' → Q () { s with heap := h', toks := tk }) → wpAny (model prog w) A (setAttr (.ref x) F u) Q E s := by
    intro F y u acc dd s Q hF ry S hl hq
    obtain ⟨kp, sz, hn, ⟨t1, hx⟩, hd⟩ := S
    have X : K.In s.heap := kept_but X0 hnx kp
    obtain ⟨hp, g, d, tk, os⟩ := s
    obtain ⟨oL, esL, epL, hoL, hrL⟩ := id hn
    cases dd with
    | none =>
      have hd : acc = [] := hd
      subst hd
      refine set_plain X (ox := excO C t1) (od := none) ⟨hx, rfl, rfl, trivial⟩ T.sa ?_
      refine exc_osa X hx hcl (show refsVE (.ref C :: bm) = true from hbm) rfl hF (fun h₃ tk₃ dx k₃ dn dne hx₃ hn₃ => ?_)
      have dL : dx ≠ L := fun z => by
        have := Heap.lt_size hoL
        rw [← z] at this
        exact absurd (Nat.lt_of_lt_of_le this dn) (Nat.lt_irrefl _)
      have z3 : dx < h₃.objs.size := by
        obtain ⟨o, _, _, e, _⟩ := hn₃
        exact Heap.lt_size e
      refine hq h₃ tk₃ (some dx) ⟨fun b o hb e => k₃ b o hb (kp b o hb e), Nat.le_of_lt (Nat.lt_of_le_of_lt (Nat.le_trans sz dn) z3), ⟨oL, esL, epL, k₃ _ _ hLx hoL, hrL⟩, ⟨t1, hx₃⟩, ?_⟩
      exact ⟨List.cons_ne_nil _ _, Nat.le_trans sz dn, dne, dL, _, hn₃, relO_put (fs := []) ry fun g => True.intro⟩
    | some dx =>
      obtain ⟨_, d1, d2, d3, mA, hns, rel⟩ := hd
      have hw := within_of rel
      obtain ⟨oD, _, _, hoD, _, _⟩ := hns.count hw
      refine set_plain X (ox := { cls := .ref C, dict := some dx, data := .fields #[.ref t1, .none, .none, .none, .bool false, .none] }) (od := some oD) ⟨hx, rfl, rfl, hoD⟩ T.sa ?_
      refine PySem.OEX.osa_old X hx hns hw (by rw [List.length_map]; omega) hcl (show refsVE (.ref C :: bm) = true from hbm) rfl hF (fun h' tk' k hn' => ?_)
      have z3 : dx < h'.objs.size := by
        obtain ⟨o, _, _, e, _⟩ := hn'
        exact Heap.lt_size e
      refine hq h' tk' (some dx) ⟨fun b o hb e => k b o (fun z => ?_) (kp b o hb e), Nat.le_of_lt (Nat.lt_of_le_of_lt d1 z3), ⟨oL, esL, epL, k _ _ (Ne.symm d3) hoL, hrL⟩, ⟨t1, k _ _ (Ne.symm d2) hx⟩, ⟨List.cons_ne_nil _ _, d1, d2, d3, _, hn', relO_put ry rel⟩⟩
      have := Heap.lt_size e
      rw [z] at this
      exact absurd (Nat.lt_of_lt_of_le this d1) (Nat.lt_irrefl _)
  intro sts fs' S
  induction S with
  | nil =>
    intro hfs acc dd s Q S hl hq
    exact wpAny_execs_nil (by have := hq s.heap s.toks dd S; exact this)
  | @par F p i q1 q2 q3 q4 r fs1 h t ih =>
    intro hfs acc dd s Q S hl hq
    obtain ⟨v, u, hv, ru, hm⟩ := hpar i p h
    have hp : p ∈ (("self" : Str) :: ps) := List.mem_cons_of_mem _ (List.mem_of_getElem? h)
    refine wpAny_execs_cons (plainObj_wpAny_Assign_Attribute ?_)
    refine ldl hp S.ns hm (ldl hsf S.ns hself ?_)
    have hl2 : acc.length + (fs1.length + 1) ≤ 100 := hl
    refine one (hfs _ List.mem_cons_self |> T.noF _) ru S (by omega) fun h' tk dd' S' => ?_
    refine ih (fun z hz => hfs z (List.mem_cons_of_mem _ hz)) (s := { s with heap := h', toks := tk }) S' (by rw [List.length_cons]; omega) fun h'' tk' dd'' S'' => ?_
    have e : errF vs ((F, Sum.inl i) :: fs1) acc = errF vs fs1 ((F, v) :: acc) := by
      show errF vs fs1 ((F, vs.getD i .non) :: acc) = _
      rw [List.getD_eq_getElem?_getD, hv]; rfl
    rw [e] at hq
    exact hq h'' tk' dd'' S''
  | @con F c j q1 q2 q3 q4 r fs1 t ih =>
    intro hfs acc dd s Q S hl hq
    refine wpAny_execs_cons (plainObj_wpAny_Assign_Attribute ?_)
    refine Calls.Constant_str (ldl (s := { s with toks := s.toks + 1 }) hsf S.ns hself ?_)
    have hl2 : acc.length + (fs1.length + 1) ≤ 100 := hl
    refine one (y := .str c) (s := { s with toks := s.toks + 1 }) (hfs _ List.mem_cons_self |> T.noF _) ⟨_, rfl⟩ S (by omega) fun h' tk dd' S' => ?_
    refine ih (fun z hz => hfs z (List.mem_cons_of_mem _ hz)) (s := { s with heap := h', toks := tk }) S' (by rw [List.length_cons]; omega) fun h'' tk' dd'' S'' => ?_
    exact hq h'' tk' dd'' S''
end
section
open PySem PySem.W PySem.Calls PyProof.Rows PySem.HandSPX
variable {prog : Program} {w : World} {A : Around} {K : PySem.W.Frag} {C fI : Addr} {st : Stmt} {q : Str} {ps : List Str} {fs : List (Str × Sum Nat Str)}
theorem call_mw (T : ErrC prog K C fI st q ps fs) {E : Value → Shared → Prop} {h : Heap} {g : Array GenState} {d : Drawn} {t : Nat} {os : OsState} {u e t0 : Addr} {rest : List Value} {Q : Value → Shared → Prop} (X : K.In h)
    (he : h.get? e = some (excO C t0)) (hu : h.get? u = some (kxs_mw "ValueError.__init__" e)) (hrest : rest.length ≤ sizeLine)
    (hq : ∀ h' t1, (∀ b o, b ≠ e → h.get? b = some o → h'.get? b = some o) → h'.get? e = some (excO C t1) → Q .none ⟨h', g, d, t, os⟩) :
    wpAny (model prog w) A (call (.ref u) rest) Q E ⟨h, g, d, t, os⟩ := by
  obtain ⟨nm, qn, N, bs, bm, sn, sub, ab, col, dd0, k0, k1, k2, k3, k5, hC, hbm⟩ := T.cls
  refine wpAny_call (codeAny_of_tree ?_)
  show wpAny _ A.in1 (callAny (.ref u) ⟨rest, []⟩) _ _ _
  simp only [callAny]
  refine wpAny_bind (wpAny_load hu ?_)
  simp only [kxs_mw, show (Value.type "method-wrapper" == Value.type "method" || Value.type "method-wrapper" == Value.type "builtin_function_or_method" || Value.type "method-wrapper" == Value.type "method-wrapper") = true by decide, if_true]
  refine KFB.if_so (by decide) ?_
  refine wpAny_bind (check_bound_init F.excBase_ValueError.toExcCallFacts (X _ _ hC) he rfl ?_)
  refine wpAny_bind (wpAny_pure (wpAny_pure ?_))
  refine ⟨plainId_quiet F.excBase_ValueError.init.plain _, codeAny_builtin F.excBase_ValueError.initEntry ?_⟩
  exact exc_init_tree (cls := .ref C) (t0 := t0) (dv := none) (c2 := .none) (c3 := .none) (b4 := .bool false) he hrest fun h' k e1 _ => hq h' _ k e1
theorem err_init (T : ErrC prog K C fI st q ps fs) {R : Result → Shared → Prop} {s : Shared} {x t0 : Addr} {vs : List V} {us : List Value} {mg : Str → Option Value} (X : K.In s.heap) (hlim : s.heap.NoLimit)
    (G : s.heap.Ns mainGlobals mg) (hsup : mg "super" = none) (B : ∃ mb, s.heap.Ns builtinsNs mb ∧ ∀ y : Str, y ≠ "__name__" → mb y = bootBuiltins y)
    (hx : s.heap.get? x = some (excO C t0)) (hnx : K.lookup x = none) (hroom : A.depth < recursionLimit) (hv : Vals vs us) (hlen : vs.length = ps.length) (hfs : fs.length ≤ 90) (hdb : ∀ y ∈ (("self" : Str) :: ps), (y == ("__debug__" : Str)) = false)
    (hq : ∀ h' tk dd L m, L ≠ x → s.heap.objs.size ≤ L → ErrAt s.heap h' x C L m (errF vs fs []) dd → R (.ok (.ret .none)) { s with heap := h', toks := tk }) :
    codeAny (model prog w) A (.call (.ref fI) ⟨.ref x :: us, []⟩) R s := by
  obtain ⟨oc, od, doc, pm, an, cda, cc, ct, osl, ccl, cdd, cvs, ccs, tf, cl, cld, csl, ho, hcd, hcode, hcv, hcell⟩ := T.fn
  obtain ⟨nm, qn, N, bs, bm, sn, sub, ab, col, dd0, k0, k1, k2, k3, k5, hC, hbm⟩ := T.cls
  obtain ⟨p0, p1, p2, p3, p4, p5, j, msg, sts, hbody, hsts, hev⟩ := T.bo
  obtain ⟨ar, har, hself⟩ := T.hd
  have hcl : clsIn K C = some { name := nm, bases := bs, mro := .ref C :: bm, ns := N, qualname := qn, hasDict := true, slotNames := sn, subclasses := sub, abstract := ab, collection := col, hasDel := false } := by unfold clsIn; rw [hC] <;> rfl
  have hul : us.length = ps.length := by rw [← hlen]; exact hv.length.symm
  have hbind := BindsTo.of_eq (s := s) (T.bd doc pm an cda cc ct (.ref x :: us) (by rw [List.length_cons, hul]))
  have binK : ∀ y ∈ ((("self" : Str) :: ps).zip (Value.ref x :: us)), (defScope st).names.lookup y.1 = some .local := fun ⟨n, u⟩ hy => T.scl n (List.of_mem_zip hy).1
  refine ks_codeAny_call_defAt (fd := ksFn "__init__" q (defArgs st) (defBody st) (defScope st) .none .none doc pm an (.ref cda) ct cc) (body := defBody st) (binds := (("self" : Str) :: ps).zip (Value.ref x :: us)) hroom (X _ _ ho) rfl hlim (codeRec_of X hcd) rfl hbind T.scn binK (fun h₁ hns hk₁ => ?_) T.scc T.scg T.sck
  have X₁ : K.In h₁ := X.keeps hk₁
  have hx₁ := hk₁ _ _ hx
  have hLx : s.heap.objs.size ≠ x := Nat.ne_of_gt (Heap.lt_size hx)
  have sz1 : s.heap.objs.size < h₁.objs.size := hns.lt
  generalize hm : (fun y => (List.reverse ((("self" : Str) :: ps).zip (Value.ref x :: us))).lookup y) = m at hns
  have key : ∀ (l1 : List Str) (l2 : List Value) (i : Nat) (y : Str) (u : Value), l1.Nodup → l1[i]? = some y → l2[i]? = some u → (List.reverse (l1.zip l2)).lookup y = some u := by
    intro l1
    induction l1 with
    | nil => intro l2 i y u _ h _; simp at h
    | cons a r ih =>
      intro l2 i y u nd h1 h2
      cases l2 with
      | nil => simp at h2
      | cons b l2 =>
        rw [List.zip_cons_cons, List.reverse_cons, List.lookup_append]
        cases i with
        | zero =>
          simp only [List.getElem?_cons_zero, Option.some.injEq] at h1 h2
          subst h1 h2
          have : (List.reverse (r.zip l2)).lookup a = none := by
            rw [List.lookup_eq_none_iff]
            intro p hp
            have hp' := List.mem_reverse.mp hp
            have := (List.of_mem_zip (show (p.1, p.2) ∈ r.zip l2 from hp')).1
            simp only [beq_eq_false_iff_ne, ne_eq, bne_iff_ne]
            intro e
            rw [e] at nd
            exact (List.nodup_cons.mp nd).1 this
          rw [this]
          simp [List.lookup]
        | succ i =>
          rw [ih l2 i y u (List.nodup_cons.mp nd).2 h1 h2]; rfl
  have mself : m "self" = some (.ref x) := by rw [← hm]; exact key _ _ 0 _ _ T.nd rfl rfl
  have mpar : ∀ (i : Nat) p, ps[i]? = some p → ∃ v u, vs[i]? = some v ∧ RelV v u ∧ m p = some u := fun i p hp => by
    have hi : i < vs.length := by rw [hlen]; exact (List.getElem?_eq_some_iff.mp hp).1
    obtain ⟨u, hu, ru⟩ := hv.get (List.getElem?_eq_getElem hi)
    refine ⟨_, u, List.getElem?_eq_getElem hi, ru, ?_⟩
    rw [← hm]
    exact key _ _ (i + 1) _ _ T.nd hp hu
  have hDget : h₁.get? C = some (excClassObj nm qn C N bs bm true sn sub ab col dd0 k0 k1 k2 k3 k5 "ValueError.__new__") := X₁ _ _ hC
  obtain ⟨pl, hev⟩ := hev s.heap.objs.size cda cc
  show _root_.PySem.wpAt _ (A.deeper (ksEnv q (defScope st) s.heap.objs.size fI (.ref cda) cc)) (.func (defBody st) (ksEnv q (defScope st) s.heap.objs.size fI (.ref cda) cc)) (execs (defBody st) (ksEnv q (defScope st) s.heap.objs.size fI (.ref cda) cc)) _ _ _
  generalize henv : ksEnv q (defScope st) s.heap.objs.size fI (.ref cda) cc = env at hev ⊢
  have e1 : env.scope = defScope st := by rw [← henv]
  have e2 : env.locals = s.heap.objs.size := by rw [← henv]
  have e3 : env.func = some fI := by rw [← henv]
  have e4 : env.code = .ref cda := by rw [← henv]
  have e5 : env.globals = mainGlobals := by rw [← henv]
  have e6 : env.builtins = builtinsNs := by rw [← henv]
  have e7 : env.cells.lookup ("__class__" : Str) = some cc := by rw [← henv]; rfl
  have kd : ∀ y, env.kindOf y = (defScope st).names.lookup y := fun y => by rw [← henv]; rfl
  have hkf : env.scope.kind = .function := by rw [e1]; exact T.sck
  generalize hbb : defBody st = body
  rw [hbb] at hbody
  have hbody2 : execs body env = execs (.Expr (.Call (.Attribute (.Call (.Name "super" p0) [] [] p1) "__init__" p2) [.Constant (.str msg) j p3] [] p4) p5 :: sts) env := by rw [hbody]
  rw [hbody2]
  refine ks_wpAt_execs_cons (ks_wpAt_Expr_any ?_ (by simp [interactive, hkf]) rfl)
  refine ks_wpAt_MethodCall (pl := pl) ?_ hev
  refine ks_wpAt_super_base ((kd _).trans T.scs) ((kd _).trans T.scf) (by decide) e3 (hk₁ _ _ (X _ _ ho)) rfl har e4 (X₁ _ _ hcode) rfl hcv (by simp) T.top ?_
  obtain ⟨mb, hB1, hB2⟩ := B
  refine ks_loadName_global hkf ((kd _).trans T.scs) (loadGlobal_builtin (by rw [e5]; exact G.keeps hk₁) hsup (by rw [e6]; exact hB1.keeps hk₁) ((hB2 _ (by decide)).trans (by decide +kernel)) ⟨rfl, ?_⟩)
  refine wpAny_loadName_free hkf ((kd _).trans T.scf) e7 ⟨_, X₁ _ _ hcell, rfl⟩ ?_
  rw [hself]
  refine wpAny_loadName_local hkf ((kd _).trans (T.scl _ List.mem_cons_self)) (by rw [e2]; exact hns) mself ?_
  refine ks_wpAny_isType_cls hDget rfl ⟨rfl, ?_⟩
  obtain ⟨hp0, g, d, tk, os⟩ := s
  refine ks_wpAny_call_super (ox := excO C t0) hDget rfl hx₁ rfl (fun c e => nomatch e) (looks_mroIn X₁ T.mro) (fun h₂ e₂ k₂ => ?_)
  have X₂ : K.In h₂ := X₁.keeps k₂
  have I₂ : InstAt h₂ x (excO C t0) C none := ⟨k₂ _ _ hx₁, rfl, rfl, trivial⟩
  have hsu := T.su
  unfold ks_superIn at hsu
  rw [hcl] at hsu
  refine kxs_getMethod kxs_ValueError e₂ (looks_opaque X₂ T.op) (l₀ := .ref C :: bm) ?_ rfl X₂ hsu (I₂.type.andThen (looks_subIn X₂ T.veC)) (ks_ne X₂ I₂ hcl) (by decide) ?_
  · exact fun A Q E s k q => wpAny_bind ((looks_clsIn X₂ hcl) A _ E s k (wpAny_pure q))
  have hu : (h₂.push (kxs_mw "ValueError.__init__" x)).get? h₂.objs.size = some (kxs_mw "ValueError.__init__" x) := Heap.get?_push_at rfl rfl
  have k₃ : ∀ b o, h₂.get? b = some o → (h₂.push (kxs_mw "ValueError.__init__" x)).get? b = some o := fun b o e => Heap.get?_push_of_some _ e
  show wpAny _ _ (callWith p4 (.ref h₂.objs.size) [] (backTo p4 (starEach [.Constant (.str msg) j p3] env)) []) _ _ _
  refine kxs_callWith (i := "ValueError.__init__") (x := x) rfl (evalArgs_plain ?_)
  show wpAny _ _ (spliced [(false, eval (.Constant (.str msg) j p3) env)]) _ _ _
  refine spliced_cons (Constant_str (spliced_nil ⟨hu, ?_⟩))
  refine call_mw T (X₂.keeps k₃) (k₃ _ _ (k₂ _ _ hx₁)) hu (by show 1 ≤ sizeLine; decide) fun h₄ t1 k₄ hx₄ => ?_
  show _root_.PySem.wpAt _ _ _ (execs sts env) _ _ _
  refine wpAt_of_wpAny ?_
  have keep4 : ∀ b o, b ≠ x → hp0.get? b = some o → h₄.get? b = some o := fun b o hb e => k₄ b o hb (k₃ _ _ (k₂ _ _ (hk₁ _ _ e)))
  obtain ⟨oL, esL, epL, hoL, hrL⟩ := id hns
  have hoL4 : h₄.get? hp0.objs.size = some oL := k₄ _ _ hLx (k₃ _ _ (k₂ _ _ hoL))
  have S0 : ErrAt hp0 h₄ x C hp0.objs.size m [] none := ⟨keep4, Nat.le_of_lt (Heap.lt_size hoL4), ⟨oL, esL, epL, hoL4, hrL⟩, ⟨t1, hx₄⟩, rfl⟩
  refine err_stores T (h0 := hp0) X hnx hLx mself mpar hkf e2 (fun y hy => (kd y).trans (T.scl y hy)) hdb hsts (fun _ z => z) (acc := []) (s := ⟨h₄, g, d, _, os⟩) S0 (by rw [List.length_nil]; omega) fun h' tk' dd' S' => ?_
  exact hq h' tk' dd' hp0.objs.size m hLx (Nat.le_refl _) S'
end
section
open PySem PySem.Spec PyProof.Rows
variable {X : Cx} {C fI : Addr} {st : Stmt} {q : Str} {ps : List Str} {fs : List (Str × Sum Nat Str)}
/-- what the making of such an error leaves: its class, its own dict (new), the fields -/
def errQ (C : Addr) (fs : List (Str × Sum Nat Str)) (vs : List V) (H1 : Hp) (Q : XK) : Prop := match fs with
  | [] => Q (.ref C) none H1
  | p :: r => ∀ d, H1 d = none → Q (.ref C) (some d) (upd H1 d (.xd (errF vs (p :: r) [])))
def tErr (C : Addr) (n : Nat) (fs : List (Str × Sum Nat Str)) (ta : TA) : L2.St → Hp → XK → Prop := fun σ H Q => ta σ H fun vs H1 => vs.length = n ∧ errQ C fs vs H1 Q
theorem errF_nil {vs : List V} : ∀ {fs : List (Str × Sum Nat Str)} {acc : List (Str × V)}, errF vs fs acc = [] → fs = [] ∧ acc = []
  | [], acc, e => ⟨rfl, e⟩
  | p :: r, acc, e => by
    obtain ⟨_, h⟩ := errF_nil (fs := r) (acc := (p.1, fldV vs p.2) :: acc) e
    cases h
theorem err_made (T : ErrC X.prog X.K C fI st q ps fs) {pins : List (Addr × Obj)} {σ : L2.St} {H1 : Hp} {s1 : Shared} {Q : XK} {vs : List V} {us : List Value} {k : Nat} (hsup : X.mg "super" = none) (hr : Room k X.A) (hfs : fs.length ≤ 90)
    (hdb : ∀ y ∈ (("self" : Str) :: ps), (y == ("__debug__" : Str)) = false) (I1 : Inv X pins σ H1 s1) (r : Vals vs us) (hl : vs.length = ps.length) (hz : us.length ≤ sizeLine)
    (q1 : errQ C fs vs H1 Q) :
    wpAny (model X.prog X.w) X.A (call (.ref C) us) (MkP X pins σ Q) X.xe s1 := by
  obtain ⟨nm, qn, N, bs, bm, sn, sub, ab, col, dd0, k0, k1, k2, k3, k5, hC, hbm⟩ := T.cls
  have hlim := I1.nolimit
  have KX := I1.kIn
  have G := I1.mod.glob.keeps I1.bk
  have B : ∃ mb, s1.heap.Ns builtinsNs mb ∧ ∀ y : Str, y ≠ "__name__" → mb y = bootBuiltins y := by
    obtain ⟨mb, b1, b2⟩ := I1.mod.blt
    exact ⟨mb, b1.keeps I1.bk, b2⟩
  obtain ⟨hp, g, dr, tk, os⟩ := s1
  have kk : ∀ b o, hp.get? b = some o → ((hp.push (PySem.W.kdv_tup us)).push (PySem.HandSPX.excO C hp.objs.size)).get? b = some o := fun b o e => Heap.get?_push_of_some _ (Heap.get?_push_of_some _ e)
  have hget : ((hp.push (PySem.W.kdv_tup us)).push (PySem.HandSPX.excO C hp.objs.size)).get? (hp.objs.size + 1) = some (PySem.HandSPX.excO C hp.objs.size) := by heap_get
  have hnx : X.K.lookup (hp.objs.size + 1) = none := by
    cases e : X.K.lookup (hp.objs.size + 1) with
    | none => rfl
    | some o =>
      have z : hp.get? (hp.objs.size + 1) = some o := KX _ _ e
      exact absurd (Nat.lt_of_succ_lt (Heap.lt_size z)) (Nat.lt_irrefl _)
  refine wpAny_call (PySem.HandSPX.call_own F.excBase_ValueError (fun Y => PySem.HandSPX.refsVE_contains Y bm hbm) (KX _ _ hC) (PySem.W.looks_findIn KX T.iC) (fun self => PySem.W.bind_fn KX self T.tC) hz ?_)
  have hdp := hr.dp
  refine err_init T (vs := vs) (mg := X.mg) (s := ⟨(hp.push (PySem.W.kdv_tup us)).push (PySem.HandSPX.excO C hp.objs.size), g, dr, tk, os⟩) (KX.keeps kk) (hlim.keeps kk) (G.keeps kk) hsup (let ⟨mb, b1, b2⟩ := B; ⟨mb, b1.keeps kk, b2⟩) hget hnx ?_ r hl hfs hdb fun h' tk' dd L m hLx hLz S => ?_
  · show X.A.depth + 1 < recursionLimit
    omega
  obtain ⟨kp, sz, hn, ⟨t1, hx⟩, hd⟩ := S
  have e2 : ((hp.push (PySem.W.kdv_tup us)).push (PySem.HandSPX.excO C hp.objs.size)).objs.size = hp.objs.size + 2 := by simp [Heap.size_push]
  have old0 : ∀ b o, hp.get? b = some o → h'.get? b = some o := fun b o e => kp b o (Nat.ne_of_lt (Nat.lt_succ_of_lt (Heap.lt_size e))) (kk b o e)
  obtain ⟨G', g1, g2⟩ := restrict h' fun b => decide (b ≠ hp.objs.size + 1)
  have gk : ∀ b, b ≠ hp.objs.size + 1 → G'.get? b = h'.get? b := fun b hb => g1 b (decide_eq_true hb)
  have ge : G'.get? (hp.objs.size + 1) = none := g2 _ (by simp)
  have old : ∀ b o, hp.get? b = some o → G'.get? b = some o := fun b o e => (gk b (Nat.ne_of_lt (Nat.lt_succ_of_lt (Heap.lt_size e)))).trans (old0 b o e)
  have sub2 : ∀ b o, G'.get? b = some o → h'.get? b = some o := fun b o e => by
    by_cases hb : b = hp.objs.size + 1
    · rw [hb, ge] at e; cases e
    · rw [← gk b hb]; exact e
  refine ⟨rfl, ?_⟩
  show MkP X pins σ Q (.ref (hp.objs.size + 1)) ⟨h', g, dr, tk', os⟩
  cases dd with
  | none =>
    have hd : errF vs fs [] = [] := hd
    obtain ⟨rfl, _⟩ := errF_nil hd
    have J : Inv X pins σ H1 ⟨G', g, dr, tk', os⟩ := I1.kept (t' := tk') old
    exact ⟨hp.objs.size + 1, _, _, ⟨G', g, dr, tk', os⟩, H1, .ref C, none, rfl, J, sub2, ge, hx, ⟨rfl, rfl⟩, rfl, rfl, I1.hok.fresh (Nat.le_succ _), rfl, I1.bare, raises_own T.exC T.tyC, q1⟩
  | some dx =>
    obtain ⟨d0, d1, d2, d3, mA, hns, rel⟩ := hd
    rw [e2] at d1
    have hdx : hp.objs.size ≤ dx := Nat.le_trans (Nat.le_add_right _ 2) d1
    have nd : H1 dx = none := I1.hok.fresh hdx
    have ob : ObjOk X.prog X.w (upd H1 dx (.xd (errF vs fs []))) G' dx (.xd (errF vs fs [])) := ⟨mA, hns.at (fun o q => (gk dx d2).trans q), rel⟩
    have J : Inv X pins σ (upd H1 dx (.xd (errF vs fs []))) ⟨G', g, dr, tk', os⟩ := I1.laid (t' := tk') old hdx ob
    refine ⟨hp.objs.size + 1, _, _, ⟨G', g, dr, tk', os⟩, _, .ref C, some dx, rfl, J, sub2, ge, hx, ⟨rfl, rfl⟩, rfl, rfl, ?_, rfl, I1.bare, raises_own T.exC T.tyC, ?_⟩
    · rw [upd_ne (Ne.symm d2)]
      exact I1.hok.fresh (Nat.le_succ _)
    · cases fs with
      | nil =>
        exact absurd rfl d0
      | cons p r => exact q1 dx nd
/-- C(e, ..) -/
theorem pmk_err {x : Str} {e : Expr} {es : List Expr} {ta : TA} {p pos : Pos} {k : Nat} (T : ErrC X.prog X.K C fI st q ps fs) (hm : X.mg x = some (.ref C)) (hsup : X.mg "super" = none) (hr : Room k X.A) (ha : PA X (e :: es) ta) (hg : Gl X x := by rfl)
    (hfs : fs.length ≤ 90 := by decide) (hps : ps.length ≤ 90 := by decide) (hdb : ∀ y ∈ (("self" : Str) :: ps), (y == ("__debug__" : Str)) = false := by decide) (hd : (x == ("__debug__" : Str)) = false := by decide)
    (he : starEach (e :: es) X.env = (false, eval e X.env) :: starEach es X.env := by rfl) (hpl : (backTo pos (starEach es X.env)).any (·.1) = false := by rfl) :
    PMk X (.Call (.Name x p) (e :: es) [] pos) (tErr C ps.length fs ta) := by
  intro pins s σ H Q I h
  refine wpAny_Call_Name_kw (ld_glob I hg hm ?_ hd)
  refine PySem.W.callWith_K (h₀ := X.base) I.ok.mod.kin T.kC (thn (ha.run pos pins s σ H _ I h) fun us s1 hh => ?_) he hpl
  obtain ⟨vs, H1, I1, r1, hl, q1⟩ := hh
  refine ⟨I1.kIn, ?_⟩
  exact err_made T hsup hr hfs hdb I1 r1 hl (by rw [List.nil_append, ← r1.length, hl, sizeLine_eq]; omega) q1
/-- C() -/
theorem pmk_err0 {x : Str} {p pos : Pos} {k : Nat} (T : ErrC X.prog X.K C fI st q [] fs) (hm : X.mg x = some (.ref C)) (hsup : X.mg "super" = none) (hr : Room k X.A) (hg : Gl X x := by rfl)
    (hfs : fs.length ≤ 90 := by decide) (hd : (x == ("__debug__" : Str)) = false := by decide) :
    PMk X (.Call (.Name x p) [] [] pos) (tErr C 0 fs tNil) := by
  intro pins s σ H Q I h
  refine wpAny_Call_Name_kw (ld_glob I hg hm ?_ hd)
  refine PySem.W.callWith_K0 I.kIn T.kC ?_
  obtain ⟨_, q1⟩ := h
  exact err_made T (vs := []) (us := []) hsup hr hfs (by decide) I .nil rfl (Nat.zero_le _) q1
end
/-! ### several except clauses, with or without a name -/
section
open PySem PySem.Spec PyProof.Rows
abbrev Cls1 := Value × Option Nat × (Addr → Value → Option Addr → TS)
def endsAs (i : Nat) (D : Ends) : Ends := { nx := fun σ' H' => D.nx (σ'.set i none) H', rt := D.rt, bk := fun σ' H' => D.bk (σ'.set i none) H', ct := fun σ' H' => D.ct (σ'.set i none) H' }
def wCl (D : Ends) (on : Option Nat) (ts : Addr → Value → Option Addr → TS) (a : Addr) (cls : Value) (d : Option Addr) (σ : L2.St) (H : Hp) : Prop := match on with
  | none => ts a cls d D σ H
  | some i => ts a cls d (endsAs i D) (σ.set i (some (.ref a))) H
/-- what the clauses wish of an exception of the body, one after the other -/
def wManyA (K : PySem.W.Frag) (Wout : WX) (D : Ends) : List Cls1 → WX
  | [] => Wout
  | (c, on, ts) :: r => fun cls d σ H => ∃ b, PySem.W.exmOne K cls c = some b ∧ (b = true → ∀ a, H a = none → wCl D on ts a cls d σ H) ∧ (b = false → wManyA K Wout D r cls d σ H)
inductive HdsA (X : Cx) : List ExceptHandler → List Cls1 → Prop
  | nil : HdsA X [] []
  | cons {x : Str} {c : Value} {ts : Addr → Value → Option Addr → TS} {b₀ : Stmt} {suite : List Stmt} {np pos' : Pos} {hds : List ExceptHandler} {l : List Cls1} (hc : Names X x c)
      (hsu : ∀ (a : Addr) (oe : Obj) (cls : Value) (d : Option Addr) (pn : List (Addr × Obj)), Zc cls d oe → (∃ vs, oe.data = .fields vs) → PSs (X.suite a ((a, oe) :: pn)) (b₀ :: suite) (ts a cls d)) (r : HdsA X hds l) :
      HdsA X (.ExceptHandler (some (.Name x np)) none (b₀ :: suite) pos' :: hds) ((c, none, ts) :: l)
  | consA {x n : Str} {c : Value} {i : Nat} {ts : Addr → Value → Option Addr → TS} {b₀ : Stmt} {suite : List Stmt} {np pos' : Pos} {hds : List ExceptHandler} {l : List Cls1} (hc : Names X x c) (hi : X.N[i]? = some n) (hln : X.env.kindOf n = some .local)
      (hsu : ∀ (a : Addr) (oe : Obj) (cls : Value) (d : Option Addr) (pn : List (Addr × Obj)), Zc cls d oe → (∃ vs, oe.data = .fields vs) → PSs (X.suite a ((a, oe) :: pn)) (b₀ :: suite) (ts a cls d)) (r : HdsA X hds l) :
      HdsA X (.ExceptHandler (some (.Name x np)) (some n) (b₀ :: suite) pos' :: hds) ((c, some i, ts) :: l)
variable {X : Cx} {body : List Stmt} {h₀ : ExceptHandler} {hds : List ExceptHandler} {l : List Cls1} {pos : Pos} {tb : WX → TS} {Wout : WX}
theorem ps_tryA (hs : X.stack = X.env :: X.outer) (hf : X.env.frame = some X.env.locals) (hN : X.N.Nodup) (tk : Takes X Wout)
    (hb : ∀ (W : WX) (pn : List (Addr × Obj)) (xe : Value → Shared → Prop), Takes (X.tr pn xe) W → PassesOwn (model X.prog X.w) X.A X.env xe → PSs (X.tr pn xe) body (tb W))
    (hh : HdsA X (h₀ :: hds) l) : PS X (.Try body (h₀ :: hds) [] [] pos) (fun D σ H => tb (wManyA X.K Wout D l) D σ H) := by
  refine ⟨fun pins s σ H D I h => ?_⟩
  have ok := I.ok
  have hfr : X.A.frames = some (X.env :: X.outer) := by rw [ok.frames, hs]
  refine wpAny_Try_except ?_
  refine wpAny_mono ((hb (wManyA X.K Wout D l) (X.pn ++ pins) (fun e s₁ => wpAny (model X.prog X.w) X.A (noteFrame e X.env) (fun _ s₂ => wpAny (model X.prog X.w) X.A (setFlight e none) (fun _ s₃ =>
    wpAny (model X.prog X.w) X.A (handleBy e X.env (h₀ :: hds)) (SP X pins D) X.xe s₃) X.xe s₂) X.xe s₁) (fun u s' xx => ?_) PassesOwn.looking).run [] s σ H D (I.toTry _) h) (fun f s1 hsp => ?_) (fun e s1 he => he)
  · -- the catch
    obtain ⟨a, B, sI, pins', σ', H', cls, d, rfl, J', nb, up, sky, na, os, ag, w⟩ := xx
    have J : Inv X pins σ' H' sI := J'.ofTry ok
    have sky' : Sky B (X.env :: X.outer) a (Zc cls d) X.env.locals s'.heap := by rw [← hs]; exact sky
    show wpAny (model X.prog X.w) X.A (noteFrame (.ref a) X.env) _ _ _
    refine Sky.land Zc.steady hfr hf sky' fun h3 fl3 up3 => ?_
    have J3 : Inv X pins σ' H' { s' with heap := h3 } := J.landed nb fl3.1 (up.trans up3) os ag
    obtain ⟨oe3, vs3, he3, hz3, hd3⟩ := fl3.there
    have notFr : ∀ {h : Heap} {o : Obj} {vs : Array Value}, h.FunFrames B (X.env :: X.outer) → h.get? a = some o → o.data = .fields vs → a ∉ frs (X.env :: X.outer) := fun {h o vs} ff e dd hm => by
      obtain ⟨_, o', e', hnf⟩ := ff.mem hm
      rw [e] at e'; cases e'
      exact hnf _ dd
    have nfr := notFr fl3.2.2.1 he3 hd3
    have nL : a ≠ X.env.locals := fun z => nfr (List.mem_filterMap.mpr ⟨X.env, List.mem_cons_self, by rw [hf, z]⟩)
    have nF : a ∉ X.fs := fun hm => by
      obtain ⟨e, he, q⟩ := List.mem_filterMap.mp hm
      exact nfr (List.mem_filterMap.mpr ⟨e, List.mem_cons_of_mem _ he, q⟩)
    have S3 := J3.suite he3 hd3 na nL nF
    have tst : ∀ {x : Str} {c : Value} {np : Pos}, Names X x c → ∀ {Q : Value → Shared → Prop} {E : Value → Shared → Prop}, Q c { s' with heap := h3 } → wpAny (model X.prog X.w) (X.A.mark (some (.ref a))) (eval (.Name x np) X.env) Q E { s' with heap := h3 } := fun {x c np} hc {Q E} q => by
      obtain ⟨hg, hdbg, hm | ⟨hm, hv, hnn⟩⟩ := hc
      · exact ld_glob (X := X.suite a ((a, oe3) :: (X.pn ++ pins))) S3 hg hm q hdbg
      · exact ld_blt (X := X.suite a ((a, oe3) :: (X.pn ++ pins))) S3 hg hm hv q hnn hdbg
    have LT : PySem.W.Looks (model X.prog X.w) h3 (typeOf (.ref a)) cls := fun A Q E s k q => wpAny_typeOf_ref (k _ _ he3) (by rw [hz3.1]; exact q)
    have go : ∀ {hds' : List ExceptHandler} {l' : List Cls1}, HdsA X hds' l' → wManyA X.K Wout D l' cls d σ' H' →
        wpAny (model X.prog X.w) X.A (handleBy (.ref a) X.env hds') (SP X pins D) X.xe { s' with heap := h3 } := by
      intro hds' l' hk
      induction hk with
      | nil =>
        intro w
        refine wpAny_handleBy_nil ?_
        obtain ⟨k1, k2, k3, oe, vs, T, oT, ts', he, hz, hd, h1, hr⟩ := id fl3
        unfold PySem.passOn
        refine wpAny_bind (wpAny_field he hd h1 ?_)
        rw [if_neg (show ¬ ((Value.ref T == Value.none) = true) from by simp)]
        have fin : wpAny (model X.prog X.w) X.A (setFlight (.ref a) X.env.frame) (fun _ s4 => wpAny (model X.prog X.w) X.A (throw (.ref a) : Sem Flow) (SP X pins D) X.xe s4) X.xe { s' with heap := h3 } := by
          rw [hf]
          refine HandSPX.setFlight_upZ fl3 fun h4 hh4 up4 => wpAny_throw (tk _ _ ?_)
          exact ⟨a, B, sI, pins, σ', H', cls, d, rfl, J, nb, (up.trans up3).trans up4, .inr (.inr (by rw [hs]; exact hh4)), na, os, ag, w⟩
        first
          | exact wpAny_bind (wpAny_pure (wpAny_bind fin))
          | exact wpAny_bind fin
      | @cons x c ts b₀ suite np pos' hds2 l2 hc hsu r ih =>
        intro w
        obtain ⟨b, hb1, hyes, hno⟩ := w
        refine wpAny_handleBy_cons (codeAny_handlers_test ?_) (by intro q; cases q)
        have LM := PySem.W.exm_one (M := model X.prog X.w) (J3.kIn) LT hb1
        refine tst hc (LM.here ?_)
        cases b with
        | true =>
          refine codeAny_handlers_suite ?_
          refine HandSPX.lands_againZ fl3 fun h4 fl4 up4 => ?_
          have J4 : Inv X pins σ' H' { s' with heap := h4 } := J.landed nb fl4.1 ((up.trans up3).trans up4) os ag
          obtain ⟨oe4, vs4, he4, hz4, hd4⟩ := fl4.there
          have S4 := J4.suite he4 hd4 na nL nF
          refine wpAny_mono ((hsu a oe4 cls d (X.pn ++ pins) hz4 ⟨_, hd4⟩).run [] _ _ H' _ S4 (hyes rfl a na)) (fun f s6 hsp => ?_) (fun _ _ z => False.elim z)
          cases f with
          | next =>
            obtain ⟨σ6, H6, S6, q6⟩ := hsp
            exact ⟨_, _, S6.unsuite ok, q6⟩
          | brk =>
            obtain ⟨σ6, H6, S6, q6⟩ := hsp
            exact ⟨_, _, S6.unsuite ok, q6⟩
          | cont =>
            obtain ⟨σ6, H6, S6, q6⟩ := hsp
            exact ⟨_, _, S6.unsuite ok, q6⟩
          | ret u =>
            obtain ⟨v6, σ6, H6, S6, r6, q6⟩ := hsp
            exact ⟨_, _, _, S6.unsuite ok, r6, q6⟩
        | false =>
          show wpAny _ X.A (handleBy (.ref a) X.env hds2) _ _ _
          exact ih (hno rfl)
      | @consA x n c i ts b₀ suite np pos' hds2 l2 hc hi hln hsu r ih =>
        intro w
        obtain ⟨b, hb1, hyes, hno⟩ := w
        have hloc : Loc X.env.scope n := .inl hln
        refine wpAny_handleBy_cons (codeAny_handlers_test ?_) (by intro q; cases q)
        have LM := PySem.W.exm_one (M := model X.prog X.w) (J3.kIn) LT hb1
        refine tst hc (LM.here ?_)
        cases b with
        | true =>
          refine codeAny_handlers_suite_as ?_
          refine HandSPX.lands_againZ fl3 fun h4 fl4 up4 => ?_
          have J4 : Inv X pins σ' H' { s' with heap := h4 } := J.landed nb fl4.1 ((up.trans up3).trans up4) os ag
          obtain ⟨oe4, vs4, he4, hz4, hd4⟩ := fl4.there
          have S4 := J4.suite he4 hd4 na nL nF
          refine store_ok (X := X.suite a ((a, oe4) :: (X.pn ++ pins))) (v := .ref a) S4 hN hi hloc rfl (fun s5 S5 => ?_) (.inr hln)
          refine wpAny_mono ((hsu a oe4 cls d (X.pn ++ pins) hz4 ⟨_, hd4⟩).run [] s5 _ H' _ S5 (hyes rfl a na)) (fun f s6 hsp => ?_) (fun _ _ z => False.elim z)
          have end_ : ∀ {σ6 : L2.St} {H6 : Hp} {Q : Shared → Prop}, Inv (X.suite a ((a, oe4) :: (X.pn ++ pins))) [] σ6 H6 s6 → (∀ s7, Inv X pins (σ6.set i none) H6 s7 → Q s7) →
              wpAny (model X.prog X.w) X.A (do bindName X.env n .none; unbindBehindTheSuite X.env n pos') (fun _ s7 => Q s7) X.xe s6 := fun {σ6 H6 Q} S6 hq => gone_ok (S6.unsuite ok) hN hi hln hq
          cases f with
          | next =>
            obtain ⟨σ6, H6, S6, q6⟩ := hsp
            exact end_ S6 fun s7 J7 => ⟨_, _, J7, q6⟩
          | brk =>
            obtain ⟨σ6, H6, S6, q6⟩ := hsp
            exact end_ S6 fun s7 J7 => ⟨_, _, J7, q6⟩
          | cont =>
            obtain ⟨σ6, H6, S6, q6⟩ := hsp
            exact end_ S6 fun s7 J7 => ⟨_, _, J7, q6⟩
          | ret u =>
            obtain ⟨v6, σ6, H6, S6, r6, q6⟩ := hsp
            exact end_ S6 fun s7 J7 => ⟨_, _, _, J7, r6, q6⟩
        | false =>
          show wpAny _ X.A (handleBy (.ref a) X.env hds2) _ _ _
          exact ih (hno rfl)
    exact go hh w
  · cases f with
    | next =>
      obtain ⟨σ', H', J', q⟩ := hsp
      exact wpAny_execs_nil ⟨σ', H', J'.ofTry ok, q⟩
    | brk =>
      obtain ⟨σ', H', J', q⟩ := hsp
      exact ⟨σ', H', J'.ofTry ok, q⟩
    | cont =>
      obtain ⟨σ', H', J', q⟩ := hsp
      exact ⟨σ', H', J'.ofTry ok, q⟩
    | ret u =>
      obtain ⟨v, σ', H', J', r, q⟩ := hsp
      exact ⟨v, σ', H', J'.ofTry ok, r, q⟩
/-! ### o.m(e, ..) with a wish by the slots, defaults, keywords -/
variable {CX : CXT} {k : Nat} {f C : Addr} {fd : FuncData} {ps ks : List Str} {sp : Sp} {dvs : List V} {ds : List Value} {E : L2.St → XK} {x m : Str} {p apos : Pos} {e o : Expr} {es : List Expr} {kws : List Keyword} {ta : TE} {t tk : TA}
def tMethS (C : Addr) (m : Str) (sp : Sp) (dvs : List V) (E : L2.St → XK) (to : TE) (ta : TA) : TE := fun σ H Q => to σ H fun x H1 => ∃ a dx fs, x = .ref a ∧ H1 a = some (.ins C dx fs) ∧ fs.lookup m = none ∧ ta σ H1 fun vs H2 => sp (.ref a :: (vs ++ dvs)) H2 Q (E σ)
theorem pe_methSD {pl : Sem Bool} (he : PE X o ta) (c : Cls X.K C) (hm : Meth X.K C m f) (F : FnOk X.prog X.w X.K X.mg X.base CX k f fd ps sp) (hr : Room k X.A) (hb : Binds X.K fd ps ds) (hd : Vals dvs ds) (hx : ∀ σ, PassesAt CX X σ (E σ)) (ha : PA X (e :: es) t)
    (hst : starEach (e :: es) X.env = (false, eval e X.env) :: starEach es X.env := by rfl) (hpl : (backTo pos (starEach es X.env)).any (·.1) = false := by rfl)
    (ht : eval (.Call (.Attribute o m apos) (e :: es) [] pos) X.env = (do
      let ov ← eval o X.env
      standAt apos.atName
      let (f, first) ← holding [ov] (getMethod ov m pl)
      callWith pos f first (backTo pos (starEach (e :: es) X.env)) (backToKw pos (keywordEach [] X.env))) := by rfl) :
    PE X (.Call (.Attribute o m apos) (e :: es) [] pos) (tMethS C m sp dvs E ta t) := by
  refine ⟨fun pins s σ H Q I h => ?_⟩
  refine PySem.W.methodCall_KW (pl := pl) (thn (he.run pins s σ H _ I h) fun u s1 ⟨x, H1, I1, rx, a, dx, fs, ex, ea, l, q⟩ => ?_) ht
  subst ex
  obtain rfl : u = Value.ref a := rx
  refine getmeth_ok I1 ea c hm l ?_
  refine PySem.W.callWith_K (first := [.ref a]) (h₀ := X.base) I.ok.mod.kin hm.kp (thn (ha.run pos pins s1 σ H1 _ I1 q) fun us s2 ⟨vs, H2, I2, r, q2⟩ => ⟨I2.kIn, ?_⟩) hst hpl
  exact run_fnSD (us := .ref a :: us) (vs := .ref a :: vs) F hr hb hd (hx σ) I2 (.cons rfl r) q2
theorem pe_methSD0 {pl : Sem Bool} (he : PE X o ta) (c : Cls X.K C) (hm : Meth X.K C m f) (F : FnOk X.prog X.w X.K X.mg X.base CX k f fd ps sp) (hr : Room k X.A) (hb : Binds X.K fd ps ds) (hd : Vals dvs ds) (hx : ∀ σ, PassesAt CX X σ (E σ))
    (ht : eval (.Call (.Attribute o m apos) [] [] pos) X.env = (do
      let ov ← eval o X.env
      standAt apos.atName
      let (f, first) ← holding [ov] (getMethod ov m pl)
      callWith pos f first (backTo pos (starEach [] X.env)) (backToKw pos (keywordEach [] X.env))) := by rfl) :
    PE X (.Call (.Attribute o m apos) [] [] pos) (tMethS C m sp dvs E ta tNil) := by
  refine ⟨fun pins s σ H Q I h => ?_⟩
  refine PySem.W.methodCall_KW (pl := pl) (thn (he.run pins s σ H _ I h) fun u s1 ⟨x, H1, I1, rx, a, dx, fs, ex, ea, l, q⟩ => ?_) ht
  subst ex
  obtain rfl : u = Value.ref a := rx
  refine getmeth_ok I1 ea c hm l ?_
  exact PySem.W.callWith_K0 (first := [.ref a]) I1.kIn hm.kp (run_fnSD (us := [.ref a]) (vs := [.ref a]) F hr hb hd (hx σ) I1 (.cons rfl .nil) q)
end
/-! ### defs under which repr is asked: no guard is up -/
section
open PySem PySem.Spec PyProof.Rows
structure FnG (P : Program) (w : World) (K : PySem.W.Frag) (mg : Str → Option Value) (base : Heap) (CX : CXT) (k : Nat) (f : Addr) (fd : FuncData) (ps : List Str) (sp : Sp) : Prop where
  len : ∀ vs H Q E, sp vs H Q E → vs.length = ps.length
  run : ∀ (A : Around) (outer : List Env) (s : Shared) (H : Hp) (args : Args) (us : List Value) (vs : List V) (Q : VK) (E : XK), Room k A → A.guards = some [] → Env0 P w K mg base A outer s H → BindsTo s fd args (ps.zip us) → Vals vs us → sp vs H Q E →
    codeAny (model P w) A (.call (.ref f) args) (CR CX outer P w H s Q E) s
theorem FnG.of {P : Program} {w : World} {K : PySem.W.Frag} {mg : Str → Option Value} {base : Heap} {CX : CXT} {k : Nat} {f : Addr} {fd : FuncData} {ps : List Str} {sp : Sp} (F : FnOk P w K mg base CX k f fd ps sp) : FnG P w K mg base CX k f fd ps sp :=
  ⟨F.len, fun A outer s H args us vs Q E hr _ => F.run A outer s H args us vs Q E hr⟩
theorem FnG.mono {P : Program} {w : World} {K : PySem.W.Frag} {mg : Str → Option Value} {base : Heap} {CX : CXT} {j k : Nat} {f : Addr} {fd : FuncData} {ps : List Str} {sp : Sp} (F : FnG P w K mg base CX j f fd ps sp) (h : j ≤ k) : FnG P w K mg base CX k f fd ps sp :=
  ⟨F.len, fun A outer s H args us vs Q E hr => F.run A outer s H args us vs Q E (hr.mono h)⟩
theorem fn_ofG {CX : CXT} {P : Program} {w : World} {K : PySem.W.Frag} {mg : Str → Option Value} {base : Heap} {k : Nat} {f : Addr} {name qual : Str} {params : Arguments} {body : List Stmt} {scope : Scope} {dV kV doc pm cdv ct oc : Value} {an od : Option Addr}
    {osl : Array (Option Value)} {N ps : List Str} {sp : Sp} (lk : K.lookup f = some ⟨oc, od, .func (PySem.W.fnOf name qual params body scope dV kV doc pm an cdv ct), osl⟩) (hcd : PySem.W.codeIn K cdv qual = true) (S : FnScope N ps scope)
    (len : ∀ vs H Q E, sp vs H Q E → vs.length = ps.length)
    (hbody : ∀ (A : Around) (outer : List Env) (s : Shared) (H : Hp) (vs : List V) (Q : VK) (E : XK), Room k (A.deeper (envOfC qual scope s.heap.objs.size f cdv)) → A.guards = some [] → sp vs H Q E →
      ∃ t, PSs (cxOf CX P w K mg base N qual scope f cdv A outer s H E) body t ∧ t { nx := fun _ H' => Q .non H', rt := Q } (start N vs) H) :
    FnG P w K mg base CX (k + 1) f (PySem.W.fnOf name qual params body scope dV kV doc pm an cdv ct) ps sp := by
  refine ⟨len, fun A outer s H args us vs Q E hr hg e0 hb r hsp => ?_⟩
  have hl := len _ _ _ _ hsp
  have KX : K.In s.heap := e0.mod.kin.keeps fun b o e => (e0.bs b o e).1
  have lim : s.heap.NoLimit := e0.mod.nolimit.keeps fun b o e => (e0.bs b o e).1
  have hkind : ∀ y ∈ ps.zip us, scope.names.lookup y.1 = some .local ∨ (scope.names.lookup y.1 = some .cell ∧ ((cellsFrom (s.heap.objs.size + 1) scope.names []).lookup y.1).isSome = true) := fun ⟨n, v⟩ hy => by
    rcases S.par n (List.of_mem_zip hy).1 with q | q
    · exact .inl q
    · exact .inr ⟨q, PySem.W.cellsFrom_some _ _ _ (.inl q)⟩
  refine codeAny_call_function hr.depth (KX _ _ lk) rfl S.co S.gen rfl (PySem.W.codeRec_of KX hcd) (hb _ _ _ _ ?_)
  refine wpAny_newFunctionEnv_cells S.kind hkind fun env he s1 x => ?_
  subst he
  refine ⟨lim.keeps x.toInCall.keep, codeAny_func ?_⟩
  obtain ⟨t, ht, hq⟩ := hbody A outer s H vs Q E (hr.deeper _) hg hsp
  have I : Inv (cxOf CX P w K mg base N qual scope f cdv A outer s H E) [] (start N vs) H s1 := inv_start S hr.hd e0 hl r x
  refine wpAny_mono (ht.run [] s1 (start N vs) H _ I hq) (fun fl s' hs => ?_) fun e s' hs => hs
  have fin : ∀ {σ' : L2.St} {H' : Hp} {v : V} {u : Value}, Inv (cxOf CX P w K mg base N qual scope f cdv A outer s H E) [] σ' H' s' → RelV v u → Q v H' → CE outer P w H s Q u s' :=
    fun {σ' H' v u} J rv q => ⟨v, H', J.os, J.bare, J.base, J.hok, rv, q⟩
  cases fl with
  | ret u =>
    obtain ⟨v, σ', H', J, rv, q⟩ := hs
    exact fin J rv q
  | next =>
    obtain ⟨σ', H', J, q⟩ := hs
    exact fin (v := V.non) (u := Value.none) J rfl q
  | brk =>
    obtain ⟨_, _, _, q⟩ := hs
    exact False.elim q
  | cont =>
    obtain ⟨_, _, _, q⟩ := hs
    exact False.elim q
theorem okG {P : Program} {w : World} {K : PySem.W.Frag} {mg : Str → Option Value} {base : Heap} {x qual : Str} {st : Stmt} {f : Addr} {fd : FuncData} {N ps : List Str} {k : Nat} {sp : Sp} (F : L2.Fun K x qual st f fd) (S : FnScope N ps (defScope st)) (len : ∀ vs H Q E, sp vs H Q E → vs.length = ps.length)
    (hbody : ∀ (cdv : Value) (A : Around) (outer : List Env) (s : Shared) (H : Hp) (vs : List V) (Q : VK) (E : XK), Room k (A.deeper (envOfC qual (defScope st) s.heap.objs.size f cdv)) → A.guards = some [] → sp vs H Q E →
      ∃ t, PSs (cxOf CX0 P w K mg base N qual (defScope st) f cdv A outer s H E).nox (defBody st) t ∧ t { nx := fun _ H' => Q .non H', rt := Q } (start N vs) H) : FnG P w K mg base CX0 (k + 1) f fd ps sp := by
  obtain ⟨oc, od, kV, doc, pm, an, cdv, ct, osl, rfl, lk, hcd⟩ := F.ex
  refine fn_ofG lk hcd S len fun A outer s H vs Q E hr hg hsp => ?_
  obtain ⟨t, h, q⟩ := hbody cdv A outer s H vs Q E hr hg hsp
  exact ⟨t, h.nox, q⟩
theorem okGX {P : Program} {w : World} {K : PySem.W.Frag} {mg : Str → Option Value} {base : Heap} {x qual : Str} {st : Stmt} {f : Addr} {fd : FuncData} {N ps : List Str} {k : Nat} {sp : Sp} (F : L2.Fun K x qual st f fd) (S : FnScope N ps (defScope st)) (len : ∀ vs H Q E, sp vs H Q E → vs.length = ps.length)
    (hbody : ∀ (cdv : Value) (A : Around) (outer : List Env) (s : Shared) (H : Hp) (vs : List V) (Q : VK) (E : XK), Room k (A.deeper (envOfC qual (defScope st) s.heap.objs.size f cdv)) → A.guards = some [] → sp vs H Q E →
      ∃ t, PSs (cxOf (L2.CX P w) P w K mg base N qual (defScope st) f cdv A outer s H E) (defBody st) t ∧ t { nx := fun _ H' => Q .non H', rt := Q } (start N vs) H) : FnG P w K mg base (L2.CX P w) (k + 1) f fd ps sp := by
  obtain ⟨oc, od, kV, doc, pm, an, cdv, ct, osl, rfl, lk, hcd⟩ := F.ex
  exact fn_ofG lk hcd S len fun A outer s H vs Q E hr hg hsp => hbody cdv A outer s H vs Q E hr hg hsp
section
variable {X : Cx} {CX : CXT} {k : Nat} {f C : Addr} {fd : FuncData} {ps : List Str} {sp : Sp} {dvs : List V} {ds : List Value} {E : XK} {x m : Str} {p pos apos : Pos} {e o : Expr} {es : List Expr} {ta : TE} {t : TA}
theorem run_fnG {pins : List (Addr × Obj)} {σ : L2.St} {H : Hp} {s : Shared} {Q : VK} {us : List Value} {vs : List V} (F : FnG X.prog X.w X.K X.mg X.base CX k f fd ps sp) (hr : Room k X.A) (hgd : X.A.guards = some []) (hb : Binds X.K fd ps ds) (hd : Vals dvs ds) (hx : Passes CX X E)
    (I : Inv X pins σ H s) (r : Vals vs us) (h : sp (vs ++ dvs) H Q E) : wpAny (model X.prog X.w) X.A (call (.ref f) us) (EP X pins σ Q) X.xe s := by
  have r2 : Vals (vs ++ dvs) (us ++ ds) := r.append hd
  have hl : (us ++ ds).length = ps.length := by rw [← r2.length]; exact F.len _ _ _ _ h
  refine wpAny_call (codeAny_mono (F.run X.A X.stack s H ⟨us, []⟩ (us ++ ds) (vs ++ dvs) Q E hr hgd I.env0 (hb s us I.kIn hl) r2 h) fun r s' hq => ?_)
  cases r with
  | error e => exact hx pins σ H s e s' I hq
  | ok fl =>
    cases fl with
    | ret u => exact I.after hq
    | next => exact False.elim hq
    | brk => exact False.elim hq
    | cont => exact False.elim hq
theorem pe_callG (F : FnG X.prog X.w X.K X.mg X.base CX k f fd ps sp) (hr : Room k X.A) (hgd : X.A.guards = some []) (hg : Gl X x) (hm : X.mg x = some (.ref f)) (hk : PySem.W.keepIn X.K (.ref f) = true) (hb : Binds X.K fd ps ds) (hd : Vals dvs ds) (hx : Passes CX X E)
    (ha : PA X (e :: es) t) (hdb : (x == ("__debug__" : Str)) = false := by decide) (he : starEach (e :: es) X.env = (false, eval e X.env) :: starEach es X.env := by rfl) (hpl : (backTo pos (starEach es X.env)).any (·.1) = false := by rfl) :
    PE X (.Call (.Name x p) (e :: es) [] pos) (tCall sp dvs E t) := by
  refine ⟨fun pins s σ H Q I h => ?_⟩
  refine wpAny_Call_Name_kw (ld_glob I hg hm ?_ hdb)
  refine PySem.W.callWith_K (h₀ := X.base) I.ok.mod.kin hk (thn (ha.run pos pins s σ H _ I h) fun us s1 ⟨vs, H1, I1, r, q⟩ => ⟨I1.kIn, ?_⟩) he hpl
  exact run_fnG F hr hgd hb hd hx I1 r q
/-- repr of data -/
theorem call_reprD (hgd : X.A.guards = some []) (hu : X.A.units + 64 < cLine) : CallR X (.builtin "repr") (fun xs H Q => ∃ (x : V) (dt : PyData), xs = [x] ∧ Dp X.K H x dt ∧ dt.showable = true ∧ dt.hasDict = false ∧ dt.depth ≤ 60 ∧ dt.shown.length ≤ sizeLine ∧ Q (.str dt.shown) H) := by
  intro pins s σ H xs us Q I r h
  obtain ⟨x, dt, rfl, hD, h1, h2, h3, h4, q⟩ := h
  obtain ⟨u, rfl, ru⟩ := vals1 r
  obtain ⟨as, hr⟩ := Dp.reads I dt x u hD ru
  cases hD with
  | non =>
    cases (show u = Value.none from ru)
    exact PySem.P.repr_of_none ⟨.str _, H, I.tok _, ⟨_, rfl⟩, q⟩
  | bl b =>
    cases (show u = Value.bool b from ru)
    exact PySem.P.repr_of_bool ⟨.str _, H, I.tok _, ⟨_, rfl⟩, q⟩
  | int i =>
    obtain ⟨t, rfl⟩ := ru
    exact PySem.P.repr_of_int (of_decide_eq_true h1) ⟨.str _, H, I.tok _, ⟨_, rfl⟩, q⟩
  | str z =>
    obtain ⟨t, rfl⟩ := ru
    exact PySem.P.repr_of_str ⟨.str _, H, I.tok _, ⟨_, rfl⟩, q⟩ h4
  | lst hl ha =>
    cases ru
    refine repr_of_reads' hr h1 (fun z => by rw [h2] at z; cases z) hgd (by omega) (fun _ _ e => e) (fun h' u tk hk => ?_) h4
    exact ⟨.str _, H, (I.kept (t' := tk) hk), ⟨_, rfl⟩, q⟩
  | tup hl ha =>
    cases ru
    refine repr_of_reads' hr h1 (fun z => by rw [h2] at z; cases z) hgd (by omega) (fun _ _ e => e) (fun h' u tk hk => ?_) h4
    exact ⟨.str _, H, (I.kept (t' := tk) hk), ⟨_, rfl⟩, q⟩
end
end
/-! ### the law is called: no guard is up -/
section
open PySem PySem.Spec PyProof.Rows L2
theorem law_callG {P : Program} {w : World} {K : PySem.W.Frag} {mg mb : Str → Option Value} {CX : CXT} {k : Nat} {fa a : Addr} {fd : FuncData} {x : Str} {sp : Sp} {s₁ : Shared} {vs : List Value} {ns : List Int}
    (KX : K.In s₁.heap) (hns : s₁.heap.Ns mainGlobals mg) (hb : s₁.heap.Ns builtinsNs mb) (hbb : ∀ x : Str, x ≠ "__name__" → mb x = bootBuiltins x) (hlim : s₁.heap.NoLimit) (hg : s₁.gens = #[])
    (ha : s₁.heap.get? a = some { cls := .type "list", data := .seq vs.toArray }) (hi : IntsAre vs ns) (hl : ns.length ≤ sizeLine) (hr : Room k callerA)
    (F : ∀ base : Heap, K.In base → base.Ns mainGlobals mg → FnG P w K mg base CX k fa fd [x] sp) (hbind : ∀ (s : Shared) (u : Value), BindsTo s fd ⟨[u], []⟩ [(x, u)])
    (hsp : ∀ H : Hp, Only H → SqL K H a (ns.map V.int) → sp [.ref a] H (fun v _ => v = .bl true) fun _ _ _ => False)
    (hCX : ∀ H e s', CX [] H s₁ (fun _ _ _ => False) e s' → False) :
    codeAny (model P w) callerA (.call (.ref fa) ⟨[.ref a], []⟩) (fun r s' => r = .ok (.ret (.bool true)) ∧ OldK s₁.heap s'.heap ∧ s'.os = s₁.os ∧ AllBare s'.gens) s₁ := by
  have rv := vals_ints hi
  have lenV := hi.length
  -- from an abstract heap in which nothing but the script may be tracked
  have core : ∀ H : Hp, Only H → SqL K H a (ns.map V.int) → HOk P w H s₁.heap → (∀ b, H b ≠ none → b = a) → (H a ≠ none → K.lookup a = none) →
      codeAny (model P w) callerA (.call (.ref fa) ⟨[.ref a], []⟩) (fun r s' => r = .ok (.ret (.bool true)) ∧ OldK s₁.heap s'.heap ∧ s'.os = s₁.os ∧ AllBare s'.gens) s₁ := by
    intro H hO hS hok hA hK
    have base_of : ∀ {b : Addr} {o : Obj}, s₁.heap.get? b = some o → H b = none → (hidT s₁.heap H).get? b = some o := fun e n => hidT_get e n
    have noA : ∀ {b : Addr} {o : Obj} {es : Array DictEntry} {ep : Nat}, s₁.heap.get? b = some o → o.data = .dict es ep → H b = none := fun {b o es ep} e d => by
      cases q : H b with
      | none => rfl
      | some u =>
        have e' : b = a := hA b (by rw [q]; simp)
        subst e'
        rw [ha] at e; cases e
        have d' : Data.seq vs.toArray _ = Data.dict es ep := d
        cases d'
    have nsK : ∀ {b : Addr} {m : Str → Option Value}, s₁.heap.Ns b m → (hidT s₁.heap H).Ns b m := fun {b m} ⟨o, es, ep, e, d, r⟩ => ⟨o, es, ep, base_of e (noA e d), d, r⟩
    have hKb : K.In (hidT s₁.heap H) := fun b o e => base_of (KX b o e) (by
      cases q : H b with
      | none => rfl
      | some u =>
        have e' : b = a := hA b (by rw [q]; simp)
        subst e'
        rw [hK (by rw [q]; simp)] at e; cases e)
    have hM : Mod K mg (hidT s₁.heap H) := ⟨hKb, nsK hns, ⟨mb, nsK hb, hbb⟩, let ⟨mc, h1, h2⟩ := hlim; ⟨mc, nsK h1, h2⟩⟩
    have e0 : Env0 P w K mg (hidT s₁.heap H) callerA [] s₁ H := ⟨rfl, hM, fun b o e => of_hidT e, Nat.le_of_eq (hidT_size _ _), trivial, fun b hb => absurd (show b ∈ ([] : List Addr) from hb) (by simp), hok, .of_eq hg⟩
    refine codeAny_mono ((F _ hKb (nsK hns)).run callerA [] s₁ H ⟨[.ref a], []⟩ [.ref a] [.ref a] _ _ hr rfl e0 (hbind s₁ (.ref a)) (.cons rfl .nil) (hsp H hO hS)) fun r s' h => ?_
    cases r with
    | error e => exact (hCX H e s' h).elim
    | ok fl =>
      cases fl with
      | next => exact False.elim h
      | brk => exact False.elim h
      | cont => exact False.elim h
      | ret u =>
        obtain ⟨v, H', os, bare, un, hok', r', q⟩ := h
        have q' : v = .bl true := q
        subst q'
        obtain rfl : u = Value.bool true := r'
        refine ⟨rfl, OldK.of_keep fun b o e => ?_, os, bare⟩
        cases q : H b with
        | none => exact un.keep b o e q (by intro z; exact absurd (show b ∈ ([] : List Addr) from z) (by simp)) (by simp)
        | some u =>
          rcases hO b with z | ⟨ob, xs, z⟩
          · rw [q] at z; cases z
          · have z2 := un.frzs b ob _ z
            obtain ⟨e1, _⟩ := hok b _ z
            obtain ⟨e2, _⟩ := hok' b _ z2
            rw [e] at e1; cases e1
            exact e2
  cases hk : K.lookup a with
  | some o =>
    -- the script is one of the module's own objects
    have e := KX a o hk
    rw [ha] at e
    cases e
    refine core (fun _ => none) (fun _ => .inl rfl) (.inr ⟨_, vs.toArray, _, hk, rfl, rfl, rfl, by rw [List.size_toArray, lenV]; exact hl, by simpa using rv⟩) (fun b u z => by have z' : (none : Option HO) = some u := z; cases z') (fun b z => absurd rfl z) fun z => absurd rfl z
  | none =>
    refine core (fun b => if b = a then some (.frz { cls := .type "list", data := .seq vs.toArray } (.lst (ns.map V.int))) else none) (fun b => ?_) (.inl (.inr ⟨{ cls := .type "list", data := .seq vs.toArray }, if_pos rfl⟩)) (fun b u z => ?_) (fun b z => ?_) fun _ => hk
    · by_cases hb : b = a
      · exact .inr ⟨_, _, if_pos hb⟩
      · exact .inl (if_neg hb)
    · by_cases hb : b = a
      · have z' := (if_pos hb).symm.trans z
        cases z'
        subst hb
        exact ⟨ha, by rw [List.length_map]; exact hl, vs, _, rv, ha⟩
      · have z' := (if_neg hb).symm.trans z
        cases z'
    · by_cases hb : b = a
      · exact hb
      · exact absurd (if_neg hb) z
theorem walk_ofBG {l : PySem.W.OpenLaw} {n k : Nat} {q : Program} {loose : List Str} {XP : (Str → Option Value) → Heap → Prop} {YP : World → Heap → Prop} {d : DefRec} {K : Params → PySem.W.Frag} {CX : World → CXT} {sp : World → Sp} {x : Str}
    (hn : l.most = some n) (hn2 : n ≤ sizeLine) (hdf : d.params.defaults = []) (hr : Room k callerA)
    (hY : ∀ (w : World) (h : Heap), YP w h → (K w.params).In h)
    (F : ∀ (w : World) (mg : Str → Option Value) (fa : Addr) (h : Heap), (K w.params).In h → h.Ns mainGlobals mg → mg d.name = some (.ref fa) →
      ∃ fd : FuncData, (∀ (s : Shared) (u : Value), BindsTo s fd ⟨[u], []⟩ [(x, u)]) ∧
        ∀ base : Heap, (K w.params).In base → base.Ns mainGlobals mg → FnG l.prog w (K w.params) mg base (CX w) k fa fd [x] (sp w))
    (hsp : ∀ (w : World) (H : Hp) (a : Addr) (ns : List Int), ns.length ≤ n → (∀ z ∈ ns, Builtin.Int.intBits z ≤ 1048576) → Only H → SqL (K w.params) H a (ns.map V.int) → sp w [.ref a] H (fun v _ => v = .bl true) fun _ _ _ => False)
    (hCX : ∀ (w : World) (H : Hp) (s : Shared) (e : Value) (s' : Shared), CX w [] H s (fun _ _ _ => False) e s' → False) :
    PySem.W.WalkO q loose XP YP l.row.toRowW d [] (fun f vs => PySem.call f vs) := by
  refine Att.attach_callB hn hdf fun w s₀ s₁ mg mb fa o pm cd doc a vs ns G Y ho hd hcd hmg hobj hints hlen hbits hg => ?_
  have KX := hY w _ Y
  obtain ⟨fd, hb, hF⟩ := F w mg fa _ KX G.T.g hmg
  exact law_callG KX G.T.g G.T.b G.T.builtins G.T.nolimit hg hobj hints (Nat.le_trans hlen hn2) hr hF hb (fun H hO hS => hsp w H a ns hlen hbits hO hS) fun H e s' => hCX w H s₁ e s'
end
/-! ### what is never reached -/
section
variable {X : Cx}
theorem ps_no {st : Stmt} : PS X st (fun _ _ _ => False) := ⟨fun _ _ _ _ _ _ h => h.elim⟩
theorem xfc {P : Program} {K : PySem.W.Frag} {C fI : Addr} {st : Stmt} {q : Str} {ps : List Str} {fs : List (Str × Sum Nat Str)} (T : ErrC P K C fI st q ps fs) : XfC K C := ⟨T.ga, T.gg, T.exC, T.hdC⟩
end
theorem for_nil {K : PySem.W.Frag} {a : Addr} {g : TG} {tb : TS} {D : Ends} {σ : L2.St} {H : Hp} (hl : SqL K H a []) (hd : D.nx σ H) :
    ∃ W : Nat → Nat → L2.St → Hp → Prop, (∃ m, W 0 m σ H) ∧ ∀ i m σ H, W i m σ H →
      ((Itl K a).stop i H ∧ D.nx σ H) ∨ ((Itl K a).go i H ∧ ∃ N : L2.St → Hp → Prop, (∀ σ' H', N σ' H' → ∃ m', m' < m ∧ W (i + 1) m' σ' H') ∧ ∀ x H', (Itl K a).yld i H x H' → g x σ H' fun σ2 H2 => tb { D with nx := N, ct := N, bk := D.nx } σ2 H2) :=
  for_list (xs := []) (fun _ σ' H' => σ' = σ ∧ H' = H) ⟨rfl, rfl⟩ (fun i σ' H' _ p => p.2 ▸ hl) (fun i x σ' H' e _ => by simp at e) (fun σ' H' p => by rw [p.1, p.2]; exact hd)
/-! ### o.m(e, .., k = v, ..), with a wish by the slots -/
section
open PySem PySem.Spec PyProof.Rows
variable {X : Cx} {CX : CXT} {k n : Nat} {f C : Addr} {fd : FuncData} {ps ks : List Str} {sp : Sp} {E : L2.St → XK} {m : Str} {pos apos : Pos} {e o : Expr} {es : List Expr} {kws : List Keyword} {ta : TE} {t tk : TA} {g : List Value → List Value → List Value} {gV : List V → List V → List V}
def tMethK (C : Addr) (m : Str) (n j : Nat) (sp : Sp) (gV : List V → List V → List V) (E : L2.St → XK) (to : TE) (ta tk : TA) : TE := fun σ H Q => to σ H fun x H1 => ∃ a dx fs, x = .ref a ∧ H1 a = some (.ins C dx fs) ∧ fs.lookup m = none ∧ ta σ H1 fun vs H2 => tk σ H2 fun zs H3 => vs.length = n ∧ zs.length = j ∧ sp (gV (.ref a :: vs) zs) H3 Q (E σ)
theorem run_kw {pins : List (Addr × Obj)} {σ : L2.St} {H : Hp} {s : Shared} {Q : VK} {us ws : List Value} {vs zs : List V} (F : FnOk X.prog X.w X.K X.mg X.base CX k f fd ps sp) (hr : Room k X.A) (hb : KBn X.K fd ps n ks g gV) (hx : PassesAt CX X σ (E σ))
    (I : Inv X pins σ H s) (r : Vals vs us) (rz : Vals zs ws) (l1 : vs.length = n) (l2 : zs.length = ks.length) (h : sp (gV vs zs) H Q (E σ)) : wpAny (model X.prog X.w) X.A (call (.ref f) us (ks.zip ws)) (EP X pins σ Q) X.xe s := by
  have bt := hb.to s us ws I.kIn (r.length.symm.trans l1) (rz.length.symm.trans l2)
  refine wpAny_call (codeAny_mono (F.run X.A X.stack s H ⟨us, ks.zip ws⟩ (g us ws) (gV vs zs) Q (E σ) hr I.env0 bt (hb.rel r rz) h) fun q s' hq => ?_)
  match q, hq with
  | .error e, hq => exact hx pins H s e s' I hq
  | .ok (.ret u), hq => exact I.after hq
  | .ok .next, hq => exact hq.elim
  | .ok .brk, hq => exact hq.elim
  | .ok .cont, hq => exact hq.elim
theorem pe_methK {pl : Sem Bool} (ho : PE X o ta) (c : Cls X.K C) (hm : Meth X.K C m f) (F : FnOk X.prog X.w X.K X.mg X.base CX k f fd ps sp) (hr : Room k X.A) (hb : KBn X.K fd ps (n + 1) ks g gV) (hx : ∀ σ, PassesAt CX X σ (E σ)) (ha : PA X (e :: es) t) (hkw : PK X kws tk)
    (hall : (backToKw pos (keywordEach kws X.env)).all (·.1.isSome) = true := by rfl) (hks : (backToKw pos (keywordEach kws X.env)).filterMap (·.1) = ks := by rfl)
    (hst : starEach (e :: es) X.env = (false, eval e X.env) :: starEach es X.env := by rfl) (hpl : ((backTo pos (starEach (e :: es) X.env)).any (·.1) || (backToKw pos (keywordEach kws X.env)).any (·.1.isNone)) = false := by rfl)
    (ht : eval (.Call (.Attribute o m apos) (e :: es) kws pos) X.env = (do
      let ov ← eval o X.env
      standAt apos.atName
      let (f, first) ← holding [ov] (getMethod ov m pl)
      callWith pos f first (backTo pos (starEach (e :: es) X.env)) (backToKw pos (keywordEach kws X.env))) := by rfl) :
    PE X (.Call (.Attribute o m apos) (e :: es) kws pos) (tMethK C m n ks.length sp gV E ta t tk) := by
  refine ⟨fun pins s σ H Q I h => ?_⟩
  refine PySem.W.methodCall_KW (pl := pl) (thn (ho.run pins s σ H _ I h) fun u s1 ⟨x, H1, I1, rx, a, dx, fs, ex, ea, l, q⟩ => ?_) ht
  subst ex
  cases (show u = Value.ref a from rx)
  refine getmeth_ok I1 ea c hm l (PySem.W.callWith_KW (first := [.ref a]) (h₀ := X.base) I.ok.mod.kin hm.kp hall (thn (ha.run pos pins s1 σ H1 _ I1 q) fun us s2 ⟨vs, H2, I2, r, q2⟩ => ?_) hpl hst)
  refine thn (hkw.run pos pins s2 σ H2 _ I2 q2) fun ws s3 ⟨zs, H3, I3, rz, l1, l2, q3⟩ => ⟨I3.kIn, ?_⟩
  rw [hks]
  exact run_kw (us := .ref a :: us) (vs := .ref a :: vs) F hr hb (hx σ) I3 (.cons rfl r) rz (congrArg Nat.succ l1) l2 q3
end
/-! ### defs called while an exception is handled: its object stands aside -/
section
open PySem PySem.Spec PyProof.Rows
structure FnP (P : Program) (w : World) (K : PySem.W.Frag) (mg : Str → Option Value) (base : Heap) (CX : CXT) (k : Nat) (f : Addr) (fd : FuncData) (ps : List Str) (sp : Sp) : Prop where
  len : ∀ vs H Q E, sp vs H Q E → vs.length = ps.length
  run : ∀ (A : Around) (outer : List Env) (s : Shared) (H : Hp) (args : Args) (us : List Value) (vs : List V) (Q : VK) (E : XK) (p : Addr × Obj), L2H.RoomH k A → L2H.PinOk outer H s p → Env0 P w K mg base A outer s H → BindsTo s fd args (ps.zip us) → Vals vs us → sp vs H Q E →
    codeAny (model P w) A (.call (.ref f) args) (CR CX outer P w H s Q E) s
theorem fn_ofP {CX : CXT} {P : Program} {w : World} {K : PySem.W.Frag} {mg : Str → Option Value} {base : Heap} {k : Nat} {f : Addr} {name qual : Str} {params : Arguments} {body : List Stmt} {scope : Scope} {dV kV doc pm cdv ct oc : Value} {an od : Option Addr}
    {osl : Array (Option Value)} {N ps : List Str} {sp : Sp} (lk : K.lookup f = some ⟨oc, od, .func (PySem.W.fnOf name qual params body scope dV kV doc pm an cdv ct), osl⟩) (hcd : PySem.W.codeIn K cdv qual = true) (S : FnScope N ps scope)
    (len : ∀ vs H Q E, sp vs H Q E → vs.length = ps.length)
    (hbody : ∀ (A : Around) (outer : List Env) (s : Shared) (H : Hp) (vs : List V) (Q : VK) (E : XK) (p : Addr × Obj), L2H.RoomH k (A.deeper (envOfC qual scope s.heap.objs.size f cdv)) → sp vs H Q E →
      ∃ t, PSs (L2H.cxH CX P w K mg base N qual scope f cdv A outer s H E p) body t ∧ t { nx := fun _ H' => Q .non H', rt := Q } (L2.start N vs) H) :
    FnP P w K mg base CX (k + 1) f (PySem.W.fnOf name qual params body scope dV kV doc pm an cdv ct) ps sp := by
  refine ⟨len, fun A outer s H args us vs Q E p hr hp e0 hb r hsp => ?_⟩
  have kk : ∀ b o, base.get? b = some o → s.heap.get? b = some o := fun b o e => (e0.bs b o e).1
  have KX : K.In s.heap := e0.mod.kin.keeps kk
  have hk2 : ∀ y ∈ ps.zip us, scope.names.lookup y.1 = some .local ∨ (scope.names.lookup y.1 = some .cell ∧ ((cellsFrom (s.heap.objs.size + 1) scope.names []).lookup y.1).isSome = true) := fun y hy =>
    (S.par y.1 (List.of_mem_zip (a := y.1) (b := y.2) hy).1).imp id fun q => ⟨q, PySem.W.cellsFrom_some _ _ _ (.inl q)⟩
  refine codeAny_call_function hr.depth (KX _ _ lk) rfl S.co S.gen rfl (PySem.W.codeRec_of KX hcd) (hb _ _ _ _ (wpAny_newFunctionEnv_cells S.kind hk2 fun env he s1 x => ?_))
  subst he
  refine ⟨(e0.mod.nolimit.keeps kk).keeps x.toInCall.keep, codeAny_func ?_⟩
  obtain ⟨t, ht, hq⟩ := hbody A outer s H vs Q E p (hr.deeper _) hsp
  refine wpAny_mono (ht.run [] s1 _ H _ (L2H.inv_startH S hp e0 (len _ _ _ _ hsp) r x) hq) (fun fl s' hs => ?_) fun e s' hs => hs
  match fl, hs with
  | .ret u, ⟨v, σ', H', J, rv, q⟩ => exact ⟨v, H', J.os, J.bare, J.base, J.hok, rv, q⟩
  | .next, ⟨σ', H', J, q⟩ => exact ⟨.non, H', J.os, J.bare, J.base, J.hok, rfl, q⟩
  | .brk, ⟨_, _, _, q⟩ => exact q.elim
  | .cont, ⟨_, _, _, q⟩ => exact q.elim
theorem okP {P : Program} {w : World} {K : PySem.W.Frag} {mg : Str → Option Value} {base : Heap} {x qual : Str} {st : Stmt} {f : Addr} {fd : FuncData} {N ps : List Str} {k : Nat} {sp : Sp} (F : L2.Fun K x qual st f fd) (S : FnScope N ps (defScope st)) (len : ∀ vs H Q E, sp vs H Q E → vs.length = ps.length)
    (hbody : ∀ (cdv : Value) (A : Around) (outer : List Env) (s : Shared) (H : Hp) (vs : List V) (Q : VK) (E : XK) (p : Addr × Obj), L2H.RoomH k (A.deeper (envOfC qual (defScope st) s.heap.objs.size f cdv)) → sp vs H Q E →
      ∃ t, PSs (L2H.cxH CX0 P w K mg base N qual (defScope st) f cdv A outer s H E p).nox (defBody st) t ∧ t { nx := fun _ H' => Q .non H', rt := Q } (L2.start N vs) H) : FnP P w K mg base CX0 (k + 1) f fd ps sp := by
  obtain ⟨oc, od, kV, doc, pm, an, cdv, ct, osl, rfl, lk, hcd⟩ := F.ex
  refine fn_ofP lk hcd S len fun A outer s H vs Q E p hr hsp => ?_
  obtain ⟨t, h, q⟩ := hbody cdv A outer s H vs Q E p hr hsp
  exact ⟨t, h.nox, q⟩
section
variable {X : Cx} {CX : CXT} {k : Nat} {C p g a dx : Addr} {fs : List (Str × V)} {f : Str} {fd : FuncData} {ps : List Str} {sp : Sp} {dvs : List V} {ds : List Value} {E : XK} {e : Expr} {pos : Pos} {ta : TE}
/-- the exception that is handled stands aside here -/
def Aside (X : Cx) : Prop := ∃ q : Addr × Obj, q ∈ X.pn
theorem Aside.pin {pins : List (Addr × Obj)} {σ : L2.St} {H : Hp} {s : Shared} (h : Aside X) (I : Inv X pins σ H s) : ∃ q, L2H.PinOk X.stack H s q := by
  obtain ⟨q, hq⟩ := h
  obtain ⟨p1, p2, p3, p4, p5⟩ := I.pin q (List.mem_append_left _ hq)
  exact ⟨q, p1, p2, fun hm => (List.mem_cons.mp (I.stkSub q.1 hm)).elim p3 p4, p5⟩
/-- e.f, a property, there -/
theorem pe_propP (he : PE X e ta) (c : Cls X.K C) (hp : PropOf X.K C f p g) (F : FnP X.prog X.w X.K X.mg X.base CX0 k g fd ps sp) (hr : L2H.RoomH (k + 1) X.A) (hs : Aside X) (hb : Binds X.K fd ps ds) (hd : Vals dvs ds)
    (hab : attributeBase e f X.env (eval e X.env) = eval e X.env) : PE X (.Attribute e f pos) (tProp C sp dvs E0 ta) := by
  refine ⟨fun pins s σ H Q I h => ?_⟩
  refine attr_of hab (thn (he.run pins s σ H _ I h) fun u s1 ⟨x, H1, I1, rx, a, dx, fs, ex, ea, q⟩ => ?_)
  subst ex
  cases (show u = Value.ref a from rx)
  obtain ⟨mA, O, _, _, _, _⟩ := ins_get I1.hok ea
  obtain ⟨od, J, _⟩ := O.look
  obtain ⟨rest, hrec⟩ := hp.rec_
  have I2 := I1.tok (s1.toks + 1)
  obtain ⟨pq, hpq⟩ := hs.pin I2
  have hl : ([Value.ref a] ++ ds).length = ps.length := by
    have l1 := F.len _ _ _ _ q
    have l2 := hd.length
    simp only [List.length_append, List.length_cons, List.length_nil] at l1 ⊢
    omega
  have hc : (PySem.W.clsIn X.K C).isSome = true := by
    obtain ⟨cd, hc, _⟩ := PySem.W.any_some c.hd
    rw [hc]; rfl
  have pg := PySem.W.plainGet_of (c.get f)
  refine PySem.W.get_bind I1.kIn J pg.1 (PySem.W.findObj_data hc hp.at_ hp.get hp.tak) pg.2 (wpAny_call (PySem.W.prop_get (s := { s1 with toks := s1.toks + 1 }) I1.kIn hrec ?_))
  refine codeAny_mono (F.run X.A.in1 X.stack { s1 with toks := s1.toks + 1 } H1 ⟨[.ref a], []⟩ (.ref a :: ds) (.ref a :: dvs) Q _ pq ⟨by have := hr.dp; show X.A.depth + 3 * k + 5 < _; omega, by have := hr.un; show X.A.units + 1 + 16 * k + 200 < _; omega⟩ hpq I2.env0.in1 (hb _ [.ref a] I2.kIn hl) (.cons rfl hd) q) fun r s' hq => ?_
  match r, hq with
  | .error er, hq => exact hq.elim
  | .ok (.ret u), hq =>
    obtain ⟨v, H', I3, rv, q3⟩ := I2.after hq
    show wpAny _ _ (handedOut u) _ _ _
    rw [PySem.W.handedOut_of (handed_of rv)]
    exact wpAny_pure ⟨v, H', I3, rv, q3⟩
  | .ok .next, hq => exact hq.elim
  | .ok .brk, hq => exact hq.elim
  | .ok .cont, hq => exact hq.elim
end
end
/-! ### sets of texts -/
section
open PySem PySem.Spec PyProof.Rows
def keyT (e : Int × Value) : Str := match e.2 with
  | .str k _ => k
  | _ => Str.empty
/-- a table with the texts l, each once -/
structure TsOk (w : World) (es : Array (Int × Value)) (t : SetTable) (l : List Str) : Prop where
  good : ∀ e ∈ es.toList, ∃ k u, e = (hashStr w k, Value.str k u)
  perm : (es.toList.map keyT).Perm l
  nd : l.Nodup
  few : es.size < scanBound
  fit : t.fits es.size = true
  ris : L2.Ris t.place.toList
  led : w.params.followText "set-order" = true ∨ t.led = true
def TSet (w : World) (h : Heap) (a : Addr) (l : List Str) : Prop := ∃ o es ep t, h.get? a = some o ∧ o.ExactSet ∧ o.data = .set es ep t ∧ TsOk w es t l
section
variable {P : Program} {w : World} {h h' : Heap} {a : Addr} {l : List Str} {es : Array (Int × Value)} {t : SetTable}
theorem TSet.at (R : TSet w h a l) (k : ∀ o, h.get? a = some o → h'.get? a = some o) : TSet w h' a l := by
  obtain ⟨o, es, ep, t, ho, r⟩ := R
  exact ⟨o, es, ep, t, k o ho, r⟩
theorem str_isS (k : Str) (u : Tok) : (PySem.strKind P w).is k (.str k u) = true := by
  show Value.isStrOf k (.str k u) = true
  simp [Value.isStrOf]
theorem TsOk.elems (T : TsOk w es t l) : ElemsOf (PySem.strKind P w) es.toList := fun e he => by
  obtain ⟨k, u, rfl⟩ := T.good e he
  exact ⟨⟨k, str_isS k u, rfl⟩, rfl⟩
theorem TsOk.size (T : TsOk w es t l) : es.size = l.length := by
  have := T.perm.length_eq
  rwa [List.length_map, Array.length_toList] at this
theorem TsOk.is (T : TsOk w es t l) {e : Int × Value} (he : e ∈ es.toList) (k : Str) : (PySem.strKind P w).is k e.2 = true ↔ keyT e = k := by
  obtain ⟨j, u, rfl⟩ := T.good e he
  constructor
  · intro q
    exact ((PySem.strKind P w).inj (.str j u) k j q (str_isS j u)).symm
  · rintro rfl
    exact str_isS j u
theorem TsOk.mem (T : TsOk w es t l) (k : Str) : k ∈ l ↔ ∃ e ∈ es.toList, (PySem.strKind P w).is k e.2 = true := by
  rw [← T.perm.mem_iff, List.mem_map]
  exact ⟨fun ⟨e, he, q⟩ => ⟨e, he, (T.is he k).2 q⟩, fun ⟨e, he, q⟩ => ⟨e, he, (T.is he k).1 q⟩⟩
theorem TSet.setOf (R : TSet w h a l) : h.SetOf (PySem.strKind P w) a (fun k => decide (k ∈ l)) l.length := by
  obtain ⟨o, es, ep, t, ho, hx, hd, T⟩ := R
  exact ⟨o, es, ep, t, ho, hx, hd, T.elems, fun k => by rw [decide_eq_true_eq]; exact T.mem k, T.few, T.fit, T.size⟩
theorem TsOk.relay (T : TsOk w es t l) : TsOk w (relayAll t es (SetTable.grown es.size)).1 (relayAll t es (SetTable.grown es.size)).2.1 l := by
  have pm := relayAll_perm t es (SetTable.grown es.size)
  have hs : (relayAll t es (SetTable.grown es.size)).1.size = es.size := by rw [← Array.length_toList, pm.length_eq, Array.length_toList]
  exact ⟨fun e he => T.good e (pm.mem_iff.mp he), (pm.map keyT).trans T.perm, T.nd, by rw [hs]; exact T.few, relayAll_fits t es _, L2.relayAll_ris t es _, T.led.imp id fun z => by rw [L2.relayAll_led]; exact z⟩
theorem TsOk.off (T : TsOk w es t l) : TsOk w es { t with plain := false } l := ⟨T.good, T.perm, T.nd, T.few, SetTable.fits_plain_off T.fit, T.ris, T.led⟩
theorem TsOk.lay (T : TsOk w es t l) {k : Str} (u : Tok) (hk : k ∉ l) (room : l.length + 1 < scanBound) : TsOk w (layNew t es (hashStr w k) (.str k u)).1 (layNew t es (hashStr w k) (.str k u)).2.1 (k :: l) := by
  have pm := layNew_perm t es (hashStr w k) (.str k u)
  rw [Array.toList_push] at pm
  have pc := pm.trans (List.perm_append_singleton _ _)
  have pk : _ = _ := (pc.map keyT).length_eq
  have hs : (layNew t es (hashStr w k) (.str k u)).1.size = l.length + 1 := by
    rw [← Array.length_toList, pc.length_eq, List.length_cons, Array.length_toList, T.size]
  refine ⟨fun e he => ?_, (pc.map keyT).trans (T.perm.cons _), List.nodup_cons.mpr ⟨hk, T.nd⟩, by rw [hs]; exact room, layNew_fits t es _ _, L2.layNew_ris t es _ _ T.ris, T.led.imp id fun z => by rw [L2.layNew_led]; exact z⟩
  rcases List.mem_cons.mp (pc.mem_iff.mp he) with z | z
  · exact ⟨k, u, z⟩
  · exact T.good e z
theorem TSet.new (w : World) (h : Heap) : TSet w (h.push { cls := .type "set", dict := none, data := .set #[] 0 (.fresh 0 0 (!w.params.followText "set-order")) }) h.objs.size [] := by
  refine ⟨_, #[], 0, _, Heap.get?_push_size _ rfl, ⟨rfl, rfl, rfl⟩, rfl, (fun e he => by simp at he), by simp, List.nodup_nil, by decide, by rfl, List.Pairwise.nil, ?_⟩
  show _ ∨ (!w.params.followText "set-order") = true
  cases w.params.followText "set-order" <;> simp
end
/-- with k -/
def addT (k : Str) (l : List Str) : List Str := if k ∈ l then l else k :: l
theorem addT_mem {k j : Str} {l : List Str} : j ∈ addT k l ↔ j = k ∨ j ∈ l := by
  unfold addT
  split
  · rename_i h
    exact ⟨.inr, fun z => z.elim (fun e => e ▸ h) id⟩
  · exact List.mem_cons
theorem addT_nd {k : Str} {l : List Str} (h : l.Nodup) : (addT k l).Nodup := by
  unfold addT
  split
  · exact h
  · rename_i q
    exact List.nodup_cons.mpr ⟨q, h⟩
theorem addT_len {k : Str} {l : List Str} : (addT k l).length ≤ l.length + 1 := by
  unfold addT
  split <;> simp
section
variable {P : Program} {w : World} {A : Around} {E : Value → Shared → Prop} {s : Shared} {a : Addr} {l : List Str}
theorem ts_tail {g : Bool → Sem Unit} (hg : ∀ (b : Bool) (z : Shared) (q : Unit → Shared → Prop), q () z → wpAny (model P w) A (g b) q E z) {o : Obj} {es es1 : Array (Int × Value)} {ep : Nat} {t t2 : SetTable} (ho : s.heap.get? a = some o) (hex : o.ExactSet) (hd : o.data = .set es ep t)
    (T : TsOk w es1 t2 l) {wd : Bool} {R : Option Bool → Shared → Prop} (hR : ∀ h', Heap.SameBut a s.heap h' → TSet w h' a l → R (some true) { s with heap := h' }) :
    wpAny (model P w) A (do
        storeSet a es1 t2
        if (!wd && t2.tooFull) = true then do
            g (relayAll t2 es1 (SetTable.grown es1.size)).2.2
            storeSet a (relayAll t2 es1 (SetTable.grown es1.size)).1 (relayAll t2 es1 (SetTable.grown es1.size)).2.1
            pure (some true)
          else pure (some true)) R E s := by
  have sb := Heap.SameBut.update s.heap a (Obj.putSet es1 t2)
  have ho1 := L2.store_at (es' := es1) (t' := t2) ho hd
  refine wpAny_bind (wpAny_storeSet_of ho hd ?_ (fits_of_scanBound T.few))
  split
  · have T2 := T.relay
    generalize relayAll t2 es1 (SetTable.grown es1.size) = Z at T2 ⊢
    obtain ⟨es2, t3, gv⟩ := Z
    dsimp only at T2 ⊢
    refine wpAny_bind (hg _ _ _ (wpAny_bind (wpAny_storeSet_of ho1 rfl ?_ (fits_of_scanBound T2.few))))
    exact wpAny_pure (hR _ (sb.trans (Heap.SameBut.update _ a _)) ⟨_, es2, _, t3, L2.store_at (es' := es2) (t' := t3) ho1 rfl, hex, rfl, T2⟩)
  · exact wpAny_pure (hR _ sb ⟨_, es1, _, t2, ho1, hex, rfl, T⟩)
theorem ts_addH {k : Str} {u : Tok} {Q : Bool → Shared → Prop} (R : TSet w s.heap a l) (room : l.length + 1 < scanBound) (hQ : ∀ h' b, Heap.SameBut a s.heap h' → TSet w h' a (addT k l) → Q b { s with heap := h' }) :
    wpAny (model P w) A (setAddHashed a (.str k u) ((PySem.strKind P w).hash k)) Q E s := by
  obtain ⟨o, es, ep, t, ho, hex, hd, T⟩ := R
  have hel : ElemsOf (PySem.strKind P w) es.toList := T.elems
  have hgw : ∀ (b : Bool) (z : Shared) (q : Unit → Shared → Prop), q () z → wpAny (model P w) A (match b with | true => rule "set.scan.the-table-gave-way" | false => pure ()) q E z := fun b z q hq => by
    cases b
    · exact wpAny_pure hq
    · exact wpAny_rule hq
  unfold setAddHashed setAddHashedIn
  refine wpAny_holding (wpAny_bind (wpAny_setState_of ho hd T.fit ?_))
  dsimp only
  rw [byScan_of (show (Value.str k u).scannable = true from rfl) T.few hel]
  simp only [↓reduceIte]
  unfold setAddByScan
  refine wpAny_bind (wpAny_bind (wpAny_rule (wpAny_bind (wpAny_setScan_of (str_isS k u) ho hd T.fit hel ?_))))
  cases hfi : List.findIdx? (fun e => (PySem.strKind P w).is k e.2) es.toList with
  | some j =>
    dsimp only
    obtain ⟨hj, pj, _⟩ := List.findIdx?_eq_some_iff_getElem.mp hfi
    have hk : k ∈ l := (T.mem (P := P) k).2 ⟨_, List.getElem_mem hj, pj⟩
    refine wpAny_pure (wpAny_pure (hQ s.heap _ (Heap.SameBut.refl a s.heap) ?_))
    rw [show addT k l = l from if_pos hk]
    exact ⟨o, es, ep, t, ho, hex, hd, T⟩
  | none =>
    dsimp only
    have hk : k ∉ l := fun z => by
      obtain ⟨e, he, q⟩ := (T.mem (P := P) k).1 z
      have c := List.findIdx?_eq_none_iff.mp hfi e he
      rw [q] at c; cases c
    rw [show addT k l = k :: l from if_neg hk] at hQ
    have T1 : TsOk w (layNew t es ((PySem.strKind P w).hash k) (.str k u)).1 (layNew t es ((PySem.strKind P w).hash k) (.str k u)).2.1 (k :: l) := T.lay u hk room
    generalize layNew t es ((PySem.strKind P w).hash k) (.str k u) = Z at T1 ⊢
    obtain ⟨es1, t1, wd, gv⟩ := Z
    dsimp only at T1 ⊢
    refine wpAny_bind (hgw _ _ _ ?_)
    split
    · refine wpAny_bind ?_
      rw [hashByValue_scannable 8 (x := Value.str k u) rfl]
      refine wpAny_pure (ts_tail (l := k :: l) ?_ ho hex hd ?_ fun h' sb r => ?_)
      · exact fun b z q hq => hgw b z q hq
      · split
        · exact T1
        · exact T1.off
      · dsimp only
        exact wpAny_pure (hQ h' _ sb r)
    · refine wpAny_bind (wpAny_pure ?_)
      simp only [↓reduceIte]
      refine ts_tail ?_ ho hex hd T1 fun h' sb r => ?_
      · exact fun b z q hq => hgw b z q hq
      · dsimp only
        exact wpAny_pure (hQ h' _ sb r)
end
end
/-! ### sets of texts, tracked: add, comprehensions, sorted -/
section
open PySem PySem.Spec PyProof.Rows
def TSO (w : World) (a : Addr) (l : List Str) : HO := .ext fun h => TSet w h a l
theorem tso_new {w : World} {P : Program} {H : Hp} {h : Heap} {a : Addr} {l : List Str} (R : TSet w h a l) : ObjOk P w H h a (TSO w a l) := by
  have ⟨o, _, _, _, ho, _⟩ := R
  exact ⟨R, ⟨o, ho⟩, fun _ _ q k => q.at k⟩
section
variable {X : Cx}
theorem tso_get {pins : List (Addr × Obj)} {σ : L2.St} {H : Hp} {s : Shared} {a : Addr} {l : List Str} (I : Inv X pins σ H s) (ha : H a = some (TSO X.w a l)) : TSet X.w s.heap a l := (I.hok a _ ha).1
theorem ts_add {pins : List (Addr × Obj)} {σ : L2.St} {H : Hp} {s : Shared} {E : Value → Shared → Prop} {D : Addr} {l : List Str} {k : Str} {u : Tok} {Q : Value → Shared → Prop} (I : Inv X pins σ H s) (hD : H D = some (TSO X.w D l)) (room : l.length + 1 < scanBound)
    (h : ∀ s', Inv X pins σ (upd H D (TSO X.w D (addT k l))) s' → Q .none s') : wpAny (model X.prog X.w) X.A (call (.builtin "set.add") [.ref D, .str k u]) Q E s := by
  have R := tso_get I hD
  have hS : s.heap.SetOf (PySem.strKind X.prog X.w) D (fun k => decide (k ∈ l)) l.length := R.setOf
  refine wpAny_call_entry F.slot_set_add hS.typeIs F.entry_set_add ?_ (F.args_set_add_2 _ _)
  unfold Builtin.«set.add» Builtin.Frozenset.oneOther
  simp only [List.isEmpty_nil, bind_assoc]
  unfold Builtin.Frozenset.addrOf setAdd
  refine wpAny_bind (wpAny_pure ?_)
  try dsimp only
  refine wpAny_bind (wpAny_pure ?_)
  try dsimp only
  refine wpAny_bind (wpAny_holding (wpAny_bind ((PySem.strKind X.prog X.w).pyHash (str_isS k u) (ts_addH (s := { s with toks := s.toks + 1 }) R room fun h' b sb new => ?_))))
  have he : ∃ v, h'.get? D = some v := let ⟨o, _, _, _, ho, _⟩ := new; ⟨o, ho⟩
  exact wpAny_pure ⟨_, rfl, h _ (I.write (e := D) (t' := s.toks + 1) (by rw [hD]; trivial) (.inl rfl) (fun b v hb hu => (sb.2 b hb).trans hu) he (tso_new new))⟩
/-- {elt for target in iter if ..}, elt a text: D the new set -/
def tScT (w : World) (wi : TI) (g : TG) (tt : TT) (te : TE) (vs : List Nat) : TE := fun σ H Q => wi σ H fun J H1 => ∀ D, H1 D = none → ∃ W : Nat → Nat → Hp → Prop, (∃ m, W 0 m (upd H1 D (TSO w D []))) ∧ ∀ i m H, W i m H →
  (J.stop i H ∧ Q (.ref D) H) ∨ (J.go i H ∧ ∃ Nx : Hp → Prop, (∀ H', Nx H' → ∃ m', m' < m ∧ W (i + 1) m' H') ∧ ∀ x H', J.yld i H x H' → g x (wipe σ vs) H' fun σ2 H2 => wipe σ2 vs = wipe σ vs ∧ tt σ2 H2 fun b H3 =>
    if b = true then te σ2 H3 fun y H4 => ∃ (c : Str) (l : List Str), y = .str c ∧ H4 D = some (TSO w D l) ∧ l.length + 1 < scanBound ∧ Nx (upd H4 D (TSO w D (addT c l))) else Nx H3)
theorem pe_scT {elt tg iter : Expr} {ifs : List Expr} {scope : Scope} {own : List (Str × Nat)} {pos : Pos} {wi : TI} {g : TG} {tt : TT} {te : TE} (hc : X.calm = true) (hN : X.N.Nodup) (hi : PI X tg iter wi) (ok : BlkOk X.N X.env.scope scope own)
    (hg : ∀ (s : Shared) (H : Hp) (C : Addr) (cl : List (Str × Addr)) (fp : List Addr), PG (X.blk s H scope (compEnvC scope cl C X.env) fp) tg g) (ht : ∀ (s : Shared) (H : Hp) (C : Addr) (cl : List (Str × Addr)) (fp : List Addr), PTs (X.blk s H scope (compEnvC scope cl C X.env) fp) ifs tt)
    (he : ∀ (s : Shared) (H : Hp) (C : Addr) (cl : List (Str × Addr)) (fp : List Addr), PE (X.blk s H scope (compEnvC scope cl C X.env) fp) elt te) (hs : ∀ x, foldedSetIterable iter X.env x = pure x := by intro _; rfl) :
    PE X (.SetComp elt [⟨tg, iter, ifs, 0⟩] scope pos) (tScT X.w wi g tt te (own.map (·.2))) := by
  refine ⟨fun pins s σ H Q I h => ?_⟩
  rw [PpSet.eval_SetComp]
  have fr : ∀ y ∈ scope.names, y.2 = .free → ∃ c, X.env.cells.lookup y.1 = some c := fun y hy e => (ok.free y hy e).elim (fun k => I.ok.has _ (.inl k)) fun k => I.ok.has _ (.inr k)
  refine wpAny_comprehension_free (use := none) rfl hs (closure_ok fr) ok.kind (fun y hy e => by rw [ok.uniq y hy, e]) (thn (hi.run pins s σ H _ I h) fun xv s1 hx => thn hx fun itv s2 h2 => ?_)
  obtain ⟨it, fp, tn, J, H2, rfl, I2, T, st2, f2, q⟩ := h2
  refine PpSet.newSet_ok (newEnv_comp ?_)
  generalize hD : s2.heap.objs.size = D
  obtain ⟨W, ⟨m0, w0⟩, turn⟩ := q D (I2.hok.fresh (Nat.le_of_eq hD))
  generalize hs3 : ({ s2 with heap := s2.heap.push { cls := .type "set", dict := none, data := .set #[] 0 (.fresh 0 0 (!X.w.params.followText "set-order")) } } : Shared) = s3
  have e3 : s3.heap = s2.heap.push { cls := .type "set", dict := none, data := .set #[] 0 (.fresh 0 0 (!X.w.params.followText "set-order")) } := by rw [← hs3]
  have I3 : Inv X pins σ (upd H2 D (TSO X.w D [])) s3 := by
    rw [← hs3]
    exact I2.laid (t' := s2.toks) (fun b o e => Heap.get?_push_of_some _ e) (Nat.le_of_eq hD) (hD ▸ tso_new (TSet.new X.w s2.heap))
  have f3 : ∀ b ∈ fp, FpOk X pins (upd H2 D (TSO X.w D [])) b ∧ b < s3.heap.objs.size := fun b hb => by
    obtain ⟨o, e, _⟩ := T.obj _ _ st2 b hb
    have lt := Heap.lt_size e
    refine ⟨⟨?_, (f2 b hb).2⟩, by rw [e3, Heap.size_push]; exact Nat.lt_succ_of_lt lt⟩
    rw [upd_ne (by rw [← hD]; exact Nat.ne_of_lt lt)]
    exact (f2 b hb).1
  have I4 := block_start I3 ok hN f3
  have pg := hg s3 (upd H2 D (TSO X.w D [])) s3.heap.objs.size (cellsFrom (s3.heap.objs.size + 1) scope.names (cloFrom X.env.cells scope.names [])) fp
  have pt := ht s3 (upd H2 D (TSO X.w D [])) s3.heap.objs.size (cellsFrom (s3.heap.objs.size + 1) scope.names (cloFrom X.env.cells scope.names [])) fp
  have pe := he s3 (upd H2 D (TSO X.w D [])) s3.heap.objs.size (cellsFrom (s3.heap.objs.size + 1) scope.names (cloFrom X.env.cells scope.names [])) fp
  have fin0 : ∀ s' m H', Inv X pins σ H' s' → Q (.ref D) H' → s'.heap.Ns s3.heap.objs.size m → FpOk X pins H' s3.heap.objs.size → compPost (model X.prog X.w) X.A X.xe none (EP X pins σ Q) (.ref D) s3.heap.objs.size (.ok .next) s' := fun s' m H' I' q hn f => by
    obtain ⟨f0, f1, f2, f3, f4, f5⟩ := f
    exact ⟨m, hn, fun h'' sb => ⟨.ref D, H', I'.turned (t' := s'.toks) (fun b o hb e => (sb.2 b hb).trans e) f0 f1 f3 f4 f5, rfl, q⟩⟩
  show codeAny _ _ (.compStart (.SetComp elt [⟨tg, iter, ifs, 0⟩] scope pos) 0 (.ref it) (.ref D) (compEnvC scope (cellsFrom (s3.heap.objs.size + 1) scope.names (cloFrom X.env.cells scope.names [])) s3.heap.objs.size X.env)) (compPost (model X.prog X.w) X.A X.xe none (EP X pins σ Q) (.ref D) s3.heap.objs.size) { s3 with heap := pushCells (s3.heap.push { cls := .type "dict", data := .dict #[] }) scope.names }
  have nfp : ∀ b ∈ fp, (upd H2 D (TSO X.w D [])) b = none := fun b hb => (f3 b hb).1.1
  have st3 : tn 0 s3.heap := T.keep _ _ _ st2 fun b _ o e => by rw [e3]; exact Heap.get?_push_of_some _ e
  generalize hce : compEnvC scope (cellsFrom (s3.heap.objs.size + 1) scope.names (cloFrom X.env.cells scope.names [])) s3.heap.objs.size X.env = ce at I4 pg pt pe ⊢
  have cL : ce.locals = s3.heap.objs.size := by subst hce; rfl
  generalize hH3 : upd H2 D (TSO X.w D []) = H3 at I3 I4 pg pt pe w0 nfp f3
  generalize hs4 : ({ s3 with heap := pushCells (s3.heap.push { cls := .type "dict", data := .dict #[] }) scope.names } : Shared) = s4 at I4 ⊢
  have st4 : tn 0 s4.heap := T.keep _ _ _ st3 fun b _ o e => by rw [← hs4]; exact pushCells_keeps _ _ _ _ (Heap.get?_push_of_some _ e)
  have stat : ∀ {σ' : L2.St} {H' : Hp} {s' : Shared}, Inv (X.blk s3 H3 scope ce fp) [] σ' H' s' → (∀ b ∈ fp, H' b = none) → ∀ b ∈ fp, FpOk (X.blk s3 H3 scope ce fp) [] H' b := fun {σ' H' s'} J hn b hb =>
    ⟨hn b hb, (J.ok.exf b hb).1, J.ok.exfs b hb, .inl hb, fun x c e => (J.ok.exf b hb).2 x c e, fun p hp => absurd (show p ∈ ([] : List (Addr × Obj)) ++ [] from hp) (by simp)⟩
  have loop : codeAny (model X.prog X.w) X.A (.compLoop (.SetComp elt [⟨tg, iter, ifs, 0⟩] scope pos) 0 (.ref it) (.ref D) ce) (compPost (model X.prog X.w) X.A X.xe none (EP X pins σ Q) (.ref D) s3.heap.objs.size) s4 := by
    refine PpSet.compLoopS_any (fun n s' => ∃ i H', Inv (X.blk s3 H3 scope ce fp) [] (wipe σ (own.map (·.2))) H' s' ∧ tn i s'.heap ∧ (∀ b ∈ fp, H' b = none) ∧ W i n H') ?_ m0 ⟨0, H3, I4, st4, nfp, w0⟩
    rintro n s5 ⟨i, H5, I5, st5, n5, w5⟩
    rcases turn i n H5 w5 with ⟨stop, qq⟩ | ⟨go, Nx, hNx, step⟩
    · refine thnF (T.done (X.blk s3 H3 scope ce fp) rfl rfl rfl hc i [] s5 _ H5 (fun _ _ => False) I5 (stat I5 n5) st5 stop) fun r s6 ⟨hr, I6⟩ => ?_
      subst hr
      have I7 : Inv X pins σ H5 s6 := I3.call' (ch := fp) I6.os I6.base I6.hok I6.bare fun b hb => let ⟨_, g1, _, g3, g4, g5⟩ := (f3 b hb).1; ⟨g3, g1, g4, g5⟩
      have nC : H5 ce.locals = none := I6.free
      obtain ⟨m, hn, _⟩ := I6.loc
      have hn : s6.heap.Ns ce.locals m := hn
      rw [cL] at hn nC
      exact fin0 s6 m H5 I7 qq hn (I3.fpOk (Nat.le_refl _) nC)
    · refine thnF (T.item (X.blk s3 H3 scope ce fp) rfl rfl rfl hc i [] s5 _ H5 (fun _ _ => False) I5 (stat I5 n5) st5 go) fun r s6 ⟨u, hr, h6⟩ => ?_
      subst hr
      refine thnF h6 fun _ s7 ⟨x, H7, I7, r7, y7, st7, n7⟩ => ?_
      refine thnF (pg.run _ s7 _ H7 x u _ (I7.pinned (stat I7 n7) (T.obj _ _ st7)) r7 (step x H7 y7)) fun _ s8 ⟨σ8, H8, I8, hw8, q8⟩ => ?_
      refine thnF (pt.run _ s8 σ8 H8 _ I8 q8) fun b s9 ⟨H9, I9, q9⟩ => ?_
      have back : ∀ {s' : Shared} {H' : Hp}, Inv (X.blk s3 H3 scope ce fp) ([] ++ pinsAt fp s7.heap) σ8 H' s' → Nx H' → ∃ m, m < n ∧ ∃ i H', Inv (X.blk s3 H3 scope ce fp) [] (wipe σ (own.map (·.2))) H' s' ∧ tn i s'.heap ∧ (∀ b ∈ fp, H' b = none) ∧ W i m H' := fun {s' H'} J nx => by
        obtain ⟨m', hm, w'⟩ := hNx H' nx
        have pin : ∀ b ∈ fp, ∀ o, s7.heap.get? b = some o → s'.heap.get? b = some o ∧ H' b = none := fun b hb o e =>
          let z := J.pin (b, o) (List.mem_append_right _ (List.mem_append_right _ (mem_pinsAt hb e))); ⟨z.1, z.2.1⟩
        refine ⟨m', hm, i + 1, H', (J.unpinned (pins := [])).weak (by rw [← hw8, wipe_length]) (fun j v e => ?_), T.keep _ _ _ st7 fun b hb o e => (pin b hb o e).1, fun b hb => ?_, w'⟩
        · rw [← hw8] at e
          exact (wipe_some e).1
        · obtain ⟨o, e, _⟩ := T.obj _ _ st7 b hb
          exact (pin b hb o e).2
      cases b with
      | false =>
        simp only [Bool.false_eq_true, if_false] at q9 ⊢
        exact back I9 q9
      | true =>
        simp only [if_true] at q9 ⊢
        refine thnF (pe.run _ s9 σ8 H9 _ I9 q9) fun z s10 ⟨yv, H10, I10, r10, c, l, ey, hD10, hz10, nx⟩ => ?_
        subst ey
        obtain ⟨tk, rfl⟩ := r10
        exact ts_add (X := X.blk s3 H3 scope ce fp) I10 hD10 hz10 fun s11 I11 => back I11 nx
  exact PpSet.codeAny_compStart_set loop (T.self X.A 0 _ _ _ st4 loop)
end
/-- over a list that the block leaves as it is -/
theorem sc_listT {w : World} {K : PySem.W.Frag} {a : Addr} {xs : List V} {g : TG} {tt : TT} {te : TE} {vs : List Nat} {σ : L2.St} {H1 : Hp} {D : Addr} {Qd : Hp → Prop} (Pv : Nat → Hp → Prop) (h0 : Pv 0 (upd H1 D (TSO w D []))) (hl : ∀ i H, i ≤ xs.length → Pv i H → SqL K H a xs)
    (hs : ∀ i x H, xs[i]? = some x → Pv i H → g x (wipe σ vs) H fun σ2 H2 => wipe σ2 vs = wipe σ vs ∧ tt σ2 H2 fun b H3 =>
      if b = true then te σ2 H3 fun y H4 => ∃ (c : Str) (l : List Str), y = .str c ∧ H4 D = some (TSO w D l) ∧ l.length + 1 < scanBound ∧ Pv (i + 1) (upd H4 D (TSO w D (addT c l))) else Pv (i + 1) H3) (hd : ∀ H, Pv xs.length H → Qd H) :
    ∃ W : Nat → Nat → Hp → Prop, (∃ m, W 0 m (upd H1 D (TSO w D []))) ∧ ∀ i m H, W i m H →
      ((Itl K a).stop i H ∧ Qd H) ∨ ((Itl K a).go i H ∧ ∃ Nx : Hp → Prop, (∀ H', Nx H' → ∃ m', m' < m ∧ W (i + 1) m' H') ∧ ∀ x H', (Itl K a).yld i H x H' → g x (wipe σ vs) H' fun σ2 H2 => wipe σ2 vs = wipe σ vs ∧ tt σ2 H2 fun b H3 =>
        if b = true then te σ2 H3 fun y H4 => ∃ (c : Str) (l : List Str), y = .str c ∧ H4 D = some (TSO w D l) ∧ l.length + 1 < scanBound ∧ Nx (upd H4 D (TSO w D (addT c l))) else Nx H3) := by
  refine ⟨fun i m H => m = xs.length - i ∧ i ≤ xs.length ∧ Pv i H, ⟨xs.length, (Nat.sub_zero _).symm, Nat.zero_le _, h0⟩, ?_⟩
  rintro i m H ⟨rfl, hi, p⟩
  have q := hl i H hi p
  rcases Nat.lt_or_ge i xs.length with lt | ge
  · refine .inr ⟨⟨xs, xs[i], q, by simp [lt]⟩, Pv (i + 1), fun H' p' => ⟨xs.length - (i + 1), by omega, rfl, lt, p'⟩, fun x H' y => ?_⟩
    obtain ⟨e, y⟩ := y
    subst e
    exact hs i x _ (y xs q) p
  · obtain rfl : i = xs.length := Nat.le_antisymm hi ge
    exact .inl ⟨⟨xs, q, Nat.le_refl _⟩, hd H p⟩
end
/-! ### sorted texts -/
section
open PySem PySem.Spec PyProof.Rows
/-- x stands ahead of y, or they are the same -/
def leT (x y : Str) : Prop := ¬ y.cps.toList < x.cps.toList
instance (x y : Str) : Decidable (leT x y) := inferInstanceAs (Decidable (¬ _))
theorem str_ext {x y : Str} (h : x.cps.toList = y.cps.toList) : x = y := by
  cases x
  cases y
  exact congrArg Str.mk (Array.toList_inj.mp h)
theorem nlt_irrefl : ∀ l : List Nat, ¬ l < l := List.lt_irrefl
theorem leT_refl (x : Str) : leT x x := List.lt_irrefl _
theorem leT_anti {x y : Str} (h : leT x y) (k : leT y x) : x = y := str_ext (List.le_antisymm (List.not_lt.mp h) (List.not_lt.mp k))
theorem leT_trans {x y z : Str} (h : leT x y) (k : leT y z) : leT x z := List.not_lt.mpr (List.le_trans (List.not_lt.mp h) (List.not_lt.mp k))
theorem leT_total (x y : Str) : leT x y ∨ leT y x := by
  rcases List.le_total x.cps.toList y.cps.toList with h | h
  · exact .inl (List.not_lt.mpr h)
  · exact .inr (List.not_lt.mpr h)
theorem rising_pw : ∀ (l : List Str) (p : Str), risingS p l = true → (p :: l).Pairwise leT
  | [], p, _ => by simp
  | x :: r, p, h => by
    have h1 : (leT p x) ∧ risingS x r = true := by
      unfold risingS at h
      rw [Bool.and_eq_true, PyProof.Rows.ltCps_eq, Bool.not_eq_true', decide_eq_false_iff_not] at h
      exact h
    have ih := rising_pw r x h1.2
    refine List.pairwise_cons.mpr ⟨fun y hy => ?_, ih⟩
    rcases List.mem_cons.mp hy with rfl | hy
    · exact h1.1
    · exact leT_trans h1.1 ((List.pairwise_cons.mp ih).1 y hy)
theorem sorted_pw {l : List Str} (h : sortedS l = true) : l.Pairwise leT := by
  cases l with
  | nil => exact .nil
  | cons x r => exact rising_pw r x h
theorem pw_unique : ∀ {l m : List Str}, l.Perm m → l.Pairwise leT → m.Pairwise leT → l = m
  | [], m, p, _, _ => (List.perm_nil.mp p.symm).symm
  | x :: l, m, p, hl, hm => by
    cases m with
    | nil => exact absurd (List.perm_nil.mp p) (by simp)
    | cons y m =>
      have e : x = y := by
        have h1 : x ∈ y :: m := p.mem_iff.mp List.mem_cons_self
        have h2 : y ∈ x :: l := p.mem_iff.mpr List.mem_cons_self
        rcases List.mem_cons.mp h1 with e | h1
        · exact e
        rcases List.mem_cons.mp h2 with e | h2
        · exact e.symm
        exact leT_anti ((List.pairwise_cons.mp hl).1 y h2) ((List.pairwise_cons.mp hm).1 x h1)
      subst e
      rw [pw_unique (List.perm_cons _ |>.mp p) (List.pairwise_cons.mp hl).2 (List.pairwise_cons.mp hm).2]
/-- sorted -/
def sortT (l : List Str) : List Str := l.mergeSort fun x y => decide (leT x y)
theorem sortT_perm (l : List Str) : (sortT l).Perm l := List.mergeSort_perm l _
theorem sortT_pw (l : List Str) : (sortT l).Pairwise leT := by
  have h := List.pairwise_mergeSort (le := fun x y => decide (leT x y)) (fun a b c h k => by
    rw [decide_eq_true_eq] at h k ⊢
    exact leT_trans h k) (fun a b => by
    rw [Bool.or_eq_true, decide_eq_true_eq, decide_eq_true_eq]
    exact leT_total a b) l
  exact h.imp fun h => of_decide_eq_true h
theorem sortT_of {l ys : List Str} (p : ys.Perm l) (h : sortedS ys = true) : ys = sortT l := pw_unique (p.trans (sortT_perm l).symm) (sorted_pw h) (sortT_pw l)
theorem sortT_congr {l m : List Str} (p : l.Perm m) : sortT l = sortT m := pw_unique ((sortT_perm l).trans (p.trans (sortT_perm m).symm)) (sortT_pw l) (sortT_pw m)
theorem sortT_mem {l : List Str} {k : Str} : k ∈ sortT l ↔ k ∈ l := (sortT_perm l).mem_iff
theorem sortT_len {l : List Str} : (sortT l).length = l.length := (sortT_perm l).length_eq
theorem nd_perm {l m : List Str} (hl : l.Nodup) (hm : m.Nodup) (h : ∀ k, k ∈ l ↔ k ∈ m) : l.Perm m := by
  rw [List.perm_iff_count]
  intro k
  rw [hl.count, hm.count]
  simp [h k]
theorem strs_ofV : ∀ (l : List Value), (∀ v ∈ l, ∃ k u, v = Value.str k u) → ∃ ss, StrsAre l ss ∧ l.map (fun v => keyT (0, v)) = ss
  | [], _ => ⟨[], .nil, rfl⟩
  | v :: l, h => by
    obtain ⟨k, u, rfl⟩ := h v List.mem_cons_self
    obtain ⟨ss, h1, h2⟩ := strs_ofV l fun x hx => h x (List.mem_cons_of_mem _ hx)
    exact ⟨k :: ss, .cons k u h1, by rw [List.map_cons, h2]; rfl⟩
section
variable {P : Program} {w : World} {A : Around} {E : Value → Shared → Prop} {s : Shared} {a : Addr} {l : List Str}
theorem ts_sorted {Q : Value → Shared → Prop} (R : TSet w s.heap a l) (hh : A.handled = none)
    (hQ : ∀ s' p (out : Array Value) (c : Nat), (∀ b o, s.heap.get? b = some o → s'.heap.get? b = some o) → s'.gens = s.gens → s'.os = s.os → s.heap.objs.size ≤ p → s'.heap.get? p = some (seqObj "list" out c) → StrsAre out.toList (sortT l) → Q (.ref p) s') :
    wpAny (model P w) A (call (.builtin "sorted") [.ref a]) Q E s := by
  obtain ⟨o, es, ep, t, ho, hex, hd, T⟩ := R
  refine Calls.call_function_entry kind_sorted plain_sorted entry_sorted (args_sorted1 _) ?_
  unfold Builtin.«sorted»
  refine wpAny_bind (m := checkCount "sorted" 1 1 _) (wpAny_pure (wpAny_bind (L2.collect_set (A := A.in1) hh ⟨o, ho, hex.1, hd⟩ T.fit T.few T.ris T.led fun s1 vs k1 hz g1 o1 pm => ?_)))
  obtain ⟨ss, hS, es'⟩ := strs_ofV vs fun v hv => by
    obtain ⟨e, he, q⟩ := List.mem_map.mp (pm.mem_iff.mp hv)
    obtain ⟨k, u, rfl⟩ := T.good e he
    exact ⟨k, u, q.symm⟩
  have ps : ss.Perm l := by
    have q := pm.map fun v => keyT (0, v)
    rw [es', List.map_map] at q
    exact q.trans T.perm
  have hv : vs.length = l.length := by rw [pm.length_eq, List.length_map, Array.length_toList, T.size]
  have hL : vs.length ≤ sizeLine := by rw [hv, ← T.size]; exact fits_of_scanBound T.few
  refine wpAny_bind (wpAny_newList ?_ hL)
  have hoL : (s1.heap.push (seqObj "list" vs.toArray 0)).get? s1.heap.objs.size = some (seqObj "list" vs.toArray 0) := Heap.get?_push_size _ rfl
  refine wpAny_bind (wpAny_holding (wpAny_call_entry slot_list_sort ⟨_, hoL, rfl⟩ entry_list_sort (list_sort_treeKAny strKind_oneLt hoL hS.keysOf (fun v₁ v₂ rest e => keyKind_strs (by rw [← e]; exact hS)) hL fun st' hp hs => ⟨_, rfl, ?_⟩) (args_list_sort _)))
  obtain ⟨ys, h1, h2, h3⟩ := sorted_out_str hS hp hs
  obtain ⟨c, hc⟩ := sortedHeap_at (vs := vs) (out := (arrOf st').map (·.2)) hoL
  rw [sortT_of (h2.trans ps) h3] at h1
  refine wpAny_pure ⟨_, rfl, hQ _ s1.heap.objs.size _ c (fun b u e => ?_) g1 o1 hz hc h1⟩
  have q := k1 b u e
  have lt := Heap.lt_size q
  show (sortedHeap (s1.heap.push (seqObj "list" vs.toArray 0)) s1.heap.objs.size vs _).get? b = some u
  rw [sortedHeap_old (Nat.ne_of_lt lt) (by rw [size_push']; exact Nat.lt_succ_of_lt lt)]
  exact Heap.get?_push_of_some _ q
end
section
variable {X : Cx}
/-- sorted(found) -/
theorem cr_sortTS (hc : X.calm = true) : CallR X (.builtin "sorted") (fun vs H Q => ∃ (a : Addr) (l : List Str), vs = [V.ref a] ∧ H a = some (TSO X.w a l) ∧ ∀ p, H p = none → Q (.ref p) (upd H p (.lst ((sortT l).map V.str)))) := by
  intro pins s σ H vs us Q I r h
  obtain ⟨a, l, rfl, ha, q⟩ := h
  have R := tso_get I ha
  rw [Vals.ref1 r]
  have hl : l.length ≤ sizeLine := by
    obtain ⟨o, es, ep, t, ho, hex, hd, T⟩ := R
    rw [← T.size]; exact fits_of_scanBound T.few
  refine ts_sorted R (I.ok.hd hc) fun s' p out c k g o hp hg hi => ?_
  have hn : H p = none := I.hok.fresh hp
  have J : Inv X pins σ (upd H p (.lst ((sortT l).map V.str))) { s with heap := s'.heap, gens := s'.gens, drawn := s'.drawn, toks := s'.toks } :=
    I.call (ch := []) (Un.laid k hp hn) (I.hok.laid k hp ⟨by rw [List.length_map, sortT_len]; exact hl, out.toList, c, vals_of_strs hi, hg⟩) (by rw [g]; exact I.bare) (fun _ z => nomatch z)
  obtain ⟨h', g', d', t', os'⟩ := s'
  obtain ⟨h0, g0, d0, t0, os0⟩ := s
  cases (show os' = os0 from o)
  exact ⟨.ref p, _, J, rfl, q p hn⟩
/-- sorted(texts), any number -/
theorem cr_sortLS : CallR X (.builtin "sorted") (fun vs H Q => ∃ (a : Addr) (xs : List Str), vs = [V.ref a] ∧ SqL X.K H a (xs.map V.str) ∧ ∀ p, H p = none → Q (.ref p) (upd H p (.lst ((sortT xs).map V.str)))) := by
  intro pins s σ H vs us Q I r h
  obtain ⟨a, xs, rfl, hs, q⟩ := h
  obtain ⟨its, rv, hl, hlen⟩ := I.list hs
  rw [Vals.ref1 r]
  have l0 := rv.length
  rw [List.length_map] at l0 hlen
  refine PyProof.Rows.sorted_strsAny hl.isList rv.strs (by rw [← l0]; exact hlen) fun out ys h1 h2 h3 => ?_
  obtain ⟨ep, he'⟩ := PyProof.Rows.sortedAll_at s.heap its out
  rw [sortT_of h2 h3] at h1
  exact ⟨.ref _, upd H (s.heap.objs.size + 1) (.lst ((sortT xs).map V.str)), I.laid (t' := s.toks) (fun _ _ => PyProof.Rows.sortedAll_old) (Nat.le_succ _) ⟨by rw [List.length_map, sortT_len]; exact hlen, out.toList, ep, vals_of_strs h1, he'⟩, rfl, q _ (I.hok.fresh (Nat.le_succ _))⟩
end
end
/-! ### set(texts) -/
section
open PySem PySem.Spec PyProof.Rows
def setT (xs : List Str) : List Str := xs.foldl (fun l k => addT k l) []
theorem setT_go : ∀ (xs l : List Str), (∀ k, k ∈ xs.foldl (fun l k => addT k l) l ↔ k ∈ l ∨ k ∈ xs) ∧ (l.Nodup → (xs.foldl (fun l k => addT k l) l).Nodup) ∧ (xs.foldl (fun l k => addT k l) l).length ≤ l.length + xs.length
  | [], l => ⟨fun k => by simp, id, by simp⟩
  | x :: r, l => by
    obtain ⟨h1, h2, h3⟩ := setT_go r (addT x l)
    refine ⟨fun k => ?_, fun h => h2 (addT_nd h), ?_⟩
    · rw [List.foldl_cons, h1 k, addT_mem, List.mem_cons]
      constructor
      · rintro ((h | h) | h)
        · exact .inr (.inl h)
        · exact .inl h
        · exact .inr (.inr h)
      · rintro (h | h | h)
        · exact .inl (.inr h)
        · exact .inl (.inl h)
        · exact .inr h
    · rw [List.foldl_cons, List.length_cons]
      have := addT_len (k := x) (l := l)
      omega
theorem setT_mem {xs : List Str} {k : Str} : k ∈ setT xs ↔ k ∈ xs := by
  have := (setT_go xs []).1 k
  simpa [setT] using this
theorem setT_nd {xs : List Str} : (setT xs).Nodup := (setT_go xs []).2.1 List.nodup_nil
theorem setT_len {xs : List Str} : (setT xs).length ≤ xs.length := by
  have := (setT_go xs []).2.2
  simpa [setT] using this
theorem setT_take {xs : List Str} {i : Nat} {k : Str} (h : xs[i]? = some k) : setT (xs.take (i + 1)) = addT k (setT (xs.take i)) := by
  unfold setT
  rw [List.take_add_one, h, List.foldl_append]; rfl
theorem sortT_set {xs ys : List Str} (h : ∀ k, k ∈ xs ↔ k ∈ ys) : sortT (setT xs) = sortT (setT ys) := sortT_congr (nd_perm setT_nd setT_nd fun k => by rw [setT_mem, setT_mem]; exact h k)
/-- an empty set's object -/
abbrev set0 (w : World) : Obj := { cls := .type "set", dict := none, data := .set #[] 0 (.fresh 0 0 (!w.params.followText "set-order")) }
theorem TSet.first {w : World} {h : Heap} {a : Addr} (ho : h.get? a = some (set0 w)) : TSet w h a [] := by
  refine ⟨_, #[], 0, _, ho, ⟨rfl, rfl, rfl⟩, rfl, (fun e he => by simp at he), by simp, List.nodup_nil, by decide, by rfl, List.Pairwise.nil, ?_⟩
  show _ ∨ (!w.params.followText "set-order") = true
  cases w.params.followText "set-order" <;> simp
section
variable {P : Program} {w : World} {A : Around} {E : Value → Shared → Prop} {s : Shared}
theorem ts_update {I : Addr} {fp wr : List Addr} {G : Array GenState → Array GenState → Prop} {n : Nat} {Pv : Nat → Value → Prop} {St : Nat → Shared → Prop} {R : Result → Shared → Prop}
    (W : WalksS P w A.in1 I fp wr G n Pv St) (S : Addr) (hSf : S ∉ fp) (xs : List Str) (hn : n = xs.length) (hb : xs.length + 1 < scanBound) (hval : ∀ i v, Pv i v → ∃ k t, xs[i]? = some k ∧ v = .str k t) :
    ∀ (k i : Nat) (s : Shared), n - i = k → i ≤ n → St i s → TSet w s.heap S (setT (xs.take i)) → (∀ s', Moved (S :: wr) G s s' → TSet w s'.heap S (setT xs) → R (.ok (.ret .none)) s') →
      codeAny (model P w) A (.builtin "set.update.loop" ⟨[.ref S, .ref I], []⟩) R s := by
  have nw : S ∉ wr := fun h => hSf (W.sub _ h)
  have inc : ∀ b ∈ wr, b ∈ S :: wr := fun b hb => List.mem_cons_of_mem _ hb
  intro k
  induction k with
  | zero =>
    intro i s hk hi st hS hR
    obtain rfl : i = n := by omega
    refine codeAny_builtin F.entry_set_update_loop ?_
    rw [Around.under_plainId F.plain_set_update_loop _]
    show wpAny _ A.in1 (pyNext (.ref I) >>= _) _ _ s
    refine wpAny_bind (W.done s _ _ st fun s' hm => ?_)
    rw [List.take_of_length_le (by omega)] at hS
    exact wpAny_pure (hR s' (hm.mono inc) (hS.at fun o e => hm.heap S o nw e))
  | succ k ih =>
    intro i s hk hi st hS hR
    have lt : i < n := by omega
    refine codeAny_builtin F.entry_set_update_loop ?_
    rw [Around.under_plainId F.plain_set_update_loop _]
    show wpAny _ A.in1 (pyNext (.ref I) >>= _) _ _ s
    refine wpAny_bind (W.item i s _ _ lt st fun v s' hP st' hm => ?_)
    obtain ⟨z, t, hz, rfl⟩ := hval i v hP
    have hS' := hS.at (h' := s'.heap) fun o e => hm.heap S o nw e
    have hl : (setT (xs.take i)).length + 1 < scanBound := by
      have h1 := setT_len (xs := xs.take i)
      rw [List.length_take] at h1
      omega
    show wpAny _ A.in1 (holding [Value.str z t] (setAdd S (.str z t)) >>= _) _ _ s'
    refine wpAny_bind (wpAny_holding ?_)
    unfold setAdd
    refine wpAny_holding (wpAny_bind ((PySem.strKind P w).pyHash (k := z) (str_isS z t) (ts_addH (s := { s' with toks := s'.toks + 1 }) hS' hl fun h' b sb hS2 => ?_)))
    rw [← setT_take hz] at hS2
    refine wpAny_pure ⟨plainId_quiet F.plain_set_update_loop _, ih (i + 1) _ (by omega) lt (W.frame _ s' _ _ st' (Nat.le_succ _) fun b hb o e => ?_) hS2 fun s2 m2 q2 => ?_⟩
    · rw [sb.2 b (fun h : b = S => hSf (h ▸ hb))]; exact e
    · refine hR s2 (Moved.trans W.gtrans ((hm.mono inc).then_heap (Nat.le_succ _) fun b o hb e => ?_) m2) q2
      rw [sb.2 b (fun h : b = S => hb (h ▸ List.mem_cons_self))]; exact e
theorem strs_at : ∀ {vs : List Value} {xs : List Str}, StrsAre vs xs → ∀ {i : Nat} {v : Value}, vs[i]? = some v → ∃ k t, xs[i]? = some k ∧ v = .str k t
  | _, _, .nil, i, v, h => by simp at h
  | _, _, .cons y t r, i, v, h => by
    cases i with
    | zero =>
      cases h
      exact ⟨y, t, rfl, rfl⟩
    | succ i => exact strs_at r h
theorem strs_len : ∀ {vs : List Value} {xs : List Str}, StrsAre vs xs → vs.length = xs.length
  | _, _, .nil => rfl
  | _, _, .cons y t r => congrArg Nat.succ (strs_len r)
end
section
variable {X : Cx}
/-- len(found) -/
theorem cr_lenTS : CallR X (.builtin "len") (fun vs H Q => ∃ (a : Addr) (l : List Str), vs = [V.ref a] ∧ H a = some (TSO X.w a l) ∧ Q (.int (l.length : Int)) H) := by
  intro pins s σ H vs us Q I r h
  obtain ⟨a, l, rfl, ha, q⟩ := h
  rw [Vals.ref1 r]
  obtain ⟨o, es, ep, t, ho, hex, hd, T⟩ := tso_get I ha
  have hs := T.size
  have hf := T.few
  have h4 : scanBound = 4096 := rfl
  refine PySem.call_len_set ho hex hd T.fit (by omega) ⟨.int _, H, I.tok _, ?_, q⟩
  rw [hs]
  exact ⟨_, rfl⟩
end
end
section
open PySem PySem.Spec PyProof.Rows
section
variable {P : Program} {w : World} {A : Around} {E : Value → Shared → Prop} {s : Shared}
set_option maxHeartbeats 4000000 in
theorem ts_ofList {l : Addr} {items : Array Value} {xs : List Str} {Q : Value → Shared → Prop} (hh : A.handled = none) (hl : s.heap.IsList l items) (hi : StrsAre items.toList xs) (hb : xs.length + 1 < scanBound)
    (h : ∀ (h' : Heap) (tk : Nat), TSet w h' s.heap.objs.size (setT xs) → (∀ b o, s.heap.get? b = some o → h'.get? b = some o) → Q (.ref s.heap.objs.size) { s with heap := h', toks := tk }) : wpAny (model P w) A (call (.type "set") [.ref l]) Q E s := by
  have hz : items.size = xs.length := by
    have q := strs_len hi
    rwa [Array.length_toList] at q
  obtain ⟨c, tl, hmro⟩ := F.called_set.mro
  have hmade := F.called_set.made
  have hsub := F.called_set.sub
  refine wpAny_call (codeAny_of_tree ?_)
  show wpAny _ _ (callAny (.type "set") _) _ _ _
  refine wpAny_pure ⟨Code.quiet_builtin _ (by decide +kernel), codeAny_builtin F.entry_type_call ?_⟩
  rw [Around.under_plain (weight_type_call_type "set" [.ref l] []) rfl]
  have h1 := F.called_set.notType
  have h2 := F.called_set.canCreate
  have hct := F.typeCall_set_1 (.ref l)
  repeat (any_goals (first | assumption | wp_step))
  refine codeAny_mono (L2.code_set_led1 (.ref l) (E := E) (Q₁ := fun obj z => obj = .ref s.heap.objs.size ∧ z = { s with heap := s.heap.push (set0 w) }) ⟨rfl, rfl⟩) fun r s1 hr => ?_
  cases r with
  | error e => exact hr
  | ok fl =>
    cases fl with
    | ret obj =>
      obtain ⟨rfl, rfl⟩ := hr
      have hS : (s.heap.push (set0 w)).get? s.heap.objs.size = some (set0 w) := Heap.get?_push_size _ rfl
      have hT : Shared.TypeIs { s with heap := s.heap.push (set0 w) } (.ref s.heap.objs.size) "set" := ⟨_, hS, rfl⟩
      have hli := F.called_set.init.lookup
      have hbi := F.called_set.init.bind (.ref s.heap.objs.size)
      repeat (any_goals (first | assumption | wp_step))
      refine codeAny_mono (codeAny_call_builtin (R := wants (fun r z => r = .none ∧ ∃ h' tk, z = { s with heap := h', toks := tk } ∧ TSet w h' s.heap.objs.size (setT xs) ∧ ∀ b o, s.heap.get? b = some o → h'.get? b = some o) E) F.called_set.init.plain F.entry_set_init (check_set_init_1 hT ?_)) fun r2 s2 hr2 => ?_
      · obtain ⟨ol, hol, hcl, nl, hdl⟩ := hl
        obtain ⟨oc, od, oda, os⟩ := ol
        simp only at hcl hdl
        subst hcl hdl
        have ho' : (s.heap.push (set0 w)).get? l = some { cls := .type "list", dict := od, data := .seq items nl, slots := os } := Heap.get?_push_of_some _ hol
        have hsls := F.sub_list_set
        have hslf := F.sub_list_frozenset
        have hne : (Value.type "list" == Value.type "dict") = false := by decide
        have hl1 : (s.heap.push (set0 w)).IsList l items := ⟨_, ho', rfl, nl, rfl⟩
        unfold Builtin.«set.__init__» noKeywords Builtin.Frozenset.updateFrom
        generalize hPI : pyIter = PI
        wp_walk
        subst hPI
        refine wpAny_pyIter_list hl1 (wpAny_bind (wpAny_runValue ?_))
        have hlS : l < s.heap.objs.size := Heap.lt_size hol
        have h3 : A.in1.in1.in1.handled = none := by simp [hh]
        have sz : (s.heap.push (set0 w)).objs.size = s.heap.objs.size + 1 := Heap.size_push ..
        refine ts_update ((Walks.list h3 _ l (by rw [sz]; exact Nat.ne_of_lt (Nat.lt_succ_of_lt hlS)) items).toS) s.heap.objs.size ?_ xs hz hb (fun i v hv => strs_at hi (by rw [Array.getElem?_toList]; exact hv)) (items.size - 0) 0 _ (by omega) (Nat.zero_le _)
          ⟨⟨_, Heap.get?_push_size _ rfl, rfl, rfl⟩, hl1.push _⟩ (TSet.first (Heap.get?_push_of_some _ hS)) fun s' hm hS' => ?_
        · rw [sz]
          simp only [List.mem_cons, List.not_mem_nil, or_false, not_or]
          exact ⟨Nat.ne_of_lt (Nat.lt_succ_self _), Nat.ne_of_gt hlS⟩
        · obtain ⟨h', g2, d', tk', os'⟩ := s'
          have eg : g2 = s.gens := hm.gens
          have ed : d' = s.drawn := hm.drawn
          have eo : os' = s.os := hm.os
          subst eg ed eo
          show wpAny _ _ _ _ _ _
          refine wpAny_pure ?_
          show wpAny _ _ (ret Value.none) _ _ _
          refine wpAny_pure ⟨rfl, h', tk', rfl, hS', fun b o e => ?_⟩
          have b0 := Heap.lt_size e
          refine hm.heap b o ?_ (Heap.get?_push_of_some _ (Heap.get?_push_of_some _ e))
          rw [sz]
          simp only [List.mem_cons, List.not_mem_nil, or_false, not_or]
          exact ⟨Nat.ne_of_lt b0, Nat.ne_of_lt (Nat.lt_succ_of_lt b0)⟩
      · cases r2 with
        | error e => exact hr2
        | ok fl2 =>
          cases fl2 with
          | ret r =>
            obtain ⟨rfl, h', tk, rfl, hS', hk'⟩ := hr2
            repeat (any_goals (first | assumption | wp_step))
            exact h _ _ hS' hk'
          | _ => exact hr2.elim
    | _ => exact hr.elim
end
section
variable {X : Cx}
/-- set(xs), xs a list of texts -/
theorem cr_setTSL (hc : X.calm = true) : CallR X (.type "set") (fun vs H Q => ∃ (p : Addr) (xs : List Str), vs = [V.ref p] ∧ SqL X.K H p (xs.map V.str) ∧ xs.length + 1 < scanBound ∧ ∀ q, H q = none → Q (.ref q) (upd H q (TSO X.w q (setT xs)))) := by
  intro pins s σ H vs us Q I r h
  obtain ⟨p, xs, rfl, hs, hb, q⟩ := h
  rw [Vals.ref1 r]
  obtain ⟨its, rv, hl, _⟩ := I.list hs
  refine ts_ofList (I.ok.hd hc) hl.isList (xs := xs) (by simpa using rv.strs) hb fun h' tk R k => ?_
  exact ⟨.ref _, upd H s.heap.objs.size (TSO X.w s.heap.objs.size (setT xs)), I.laid (t' := tk) k (Nat.le_refl _) (tso_new R), rfl, q _ (I.hok.fresh (Nat.le_refl _))⟩
end
end
section
open PySem PySem.Spec PyProof.Rows
section
variable {P : Program} {w : World} {A : Around} {E : Value → Shared → Prop} {s : Shared}
set_option maxHeartbeats 4000000 in
theorem ts_ofTuple {l : Addr} {items : Array Value} {xs : List Str} {Q : Value → Shared → Prop} (hh : A.handled = none) (hl : s.heap.IsTuple l items) (hi : StrsAre items.toList xs) (hb : xs.length + 1 < scanBound)
    (h : ∀ (h' : Heap) (tk : Nat), TSet w h' s.heap.objs.size (setT xs) → (∀ b o, s.heap.get? b = some o → h'.get? b = some o) → Q (.ref s.heap.objs.size) { s with heap := h', toks := tk }) : wpAny (model P w) A (call (.type "set") [.ref l]) Q E s := by
  have hz : items.size = xs.length := by
    have q := strs_len hi
    rwa [Array.length_toList] at q
  obtain ⟨c, tl, hmro⟩ := F.called_set.mro
  have hmade := F.called_set.made
  have hsub := F.called_set.sub
  refine wpAny_call (codeAny_of_tree ?_)
  show wpAny _ _ (callAny (.type "set") _) _ _ _
  refine wpAny_pure ⟨Code.quiet_builtin _ (by decide +kernel), codeAny_builtin F.entry_type_call ?_⟩
  rw [Around.under_plain (weight_type_call_type "set" [.ref l] []) rfl]
  have h1 := F.called_set.notType
  have h2 := F.called_set.canCreate
  have hct := F.typeCall_set_1 (.ref l)
  repeat (any_goals (first | assumption | wp_step))
  refine codeAny_mono (L2.code_set_led1 (.ref l) (E := E) (Q₁ := fun obj z => obj = .ref s.heap.objs.size ∧ z = { s with heap := s.heap.push (set0 w) }) ⟨rfl, rfl⟩) fun r s1 hr => ?_
  cases r with
  | error e => exact hr
  | ok fl =>
    cases fl with
    | ret obj =>
      obtain ⟨rfl, rfl⟩ := hr
      have hS : (s.heap.push (set0 w)).get? s.heap.objs.size = some (set0 w) := Heap.get?_push_size _ rfl
      have hT : Shared.TypeIs { s with heap := s.heap.push (set0 w) } (.ref s.heap.objs.size) "set" := ⟨_, hS, rfl⟩
      have hli := F.called_set.init.lookup
      have hbi := F.called_set.init.bind (.ref s.heap.objs.size)
      repeat (any_goals (first | assumption | wp_step))
      refine codeAny_mono (codeAny_call_builtin (R := wants (fun r z => r = .none ∧ ∃ h' tk, z = { s with heap := h', toks := tk } ∧ TSet w h' s.heap.objs.size (setT xs) ∧ ∀ b o, s.heap.get? b = some o → h'.get? b = some o) E) F.called_set.init.plain F.entry_set_init (check_set_init_1 hT ?_)) fun r2 s2 hr2 => ?_
      · obtain ⟨ol, hol, hcl, nl, hdl⟩ := hl
        obtain ⟨oc, od, oda, os⟩ := ol
        simp only at hcl hdl
        subst hcl hdl
        have ho' : (s.heap.push (set0 w)).get? l = some { cls := .type "tuple", dict := od, data := .seq items nl, slots := os } := Heap.get?_push_of_some _ hol
        have hsls := F.sub_tuple_set
        have hslf := F.sub_tuple_frozenset
        have hne : (Value.type "tuple" == Value.type "dict") = false := by decide
        have hl1 : (s.heap.push (set0 w)).IsTuple l items := ⟨_, ho', rfl, nl, rfl⟩
        unfold Builtin.«set.__init__» noKeywords Builtin.Frozenset.updateFrom
        generalize hPI : pyIter = PI
        wp_walk
        subst hPI
        refine wpAny_pyIter_tuple hl1 (wpAny_bind (wpAny_runValue ?_))
        have hlS : l < s.heap.objs.size := Heap.lt_size hol
        have h3 : A.in1.in1.in1.handled = none := by simp [hh]
        have sz : (s.heap.push (set0 w)).objs.size = s.heap.objs.size + 1 := Heap.size_push ..
        refine ts_update ((Walks.tuple h3 _ l (by rw [sz]; exact Nat.ne_of_lt (Nat.lt_succ_of_lt hlS)) items).toS) s.heap.objs.size ?_ xs hz hb (fun i v hv => strs_at hi (by rw [Array.getElem?_toList]; exact hv)) (items.size - 0) 0 _ (by omega) (Nat.zero_le _)
          ⟨⟨_, Heap.get?_push_size _ rfl, rfl, rfl⟩, hl1.push _⟩ (TSet.first (Heap.get?_push_of_some _ hS)) fun s' hm hS' => ?_
        · rw [sz]
          simp only [List.mem_cons, List.not_mem_nil, or_false, not_or]
          exact ⟨Nat.ne_of_lt (Nat.lt_succ_self _), Nat.ne_of_gt hlS⟩
        · obtain ⟨h', g2, d', tk', os'⟩ := s'
          have eg : g2 = s.gens := hm.gens
          have ed : d' = s.drawn := hm.drawn
          have eo : os' = s.os := hm.os
          subst eg ed eo
          show wpAny _ _ _ _ _ _
          refine wpAny_pure ?_
          show wpAny _ _ (ret Value.none) _ _ _
          refine wpAny_pure ⟨rfl, h', tk', rfl, hS', fun b o e => ?_⟩
          have b0 := Heap.lt_size e
          refine hm.heap b o ?_ (Heap.get?_push_of_some _ (Heap.get?_push_of_some _ e))
          rw [sz]
          simp only [List.mem_cons, List.not_mem_nil, or_false, not_or]
          exact ⟨Nat.ne_of_lt b0, Nat.ne_of_lt (Nat.lt_succ_of_lt b0)⟩
      · cases r2 with
        | error e => exact hr2
        | ok fl2 =>
          cases fl2 with
          | ret r =>
            obtain ⟨rfl, h', tk, rfl, hS', hk'⟩ := hr2
            repeat (any_goals (first | assumption | wp_step))
            exact h _ _ hS' hk'
          | _ => exact hr2.elim
    | _ => exact hr.elim
end
section
variable {X : Cx}
/-- set(xs), xs a tuple of texts -/
theorem cr_setTST (hc : X.calm = true) : CallR X (.type "set") (fun vs H Q => ∃ (p : Addr) (xs : List Str), vs = [V.ref p] ∧ SqT X.K H p (xs.map V.str) ∧ xs.length + 1 < scanBound ∧ ∀ q, H q = none → Q (.ref q) (upd H q (TSO X.w q (setT xs)))) := by
  intro pins s σ H vs us Q I r h
  obtain ⟨p, xs, rfl, hs, hb, q⟩ := h
  rw [Vals.ref1 r]
  obtain ⟨its, rv, hl, _⟩ := I.tuple hs
  refine ts_ofTuple (I.ok.hd hc) hl (xs := xs) (by simpa using rv.strs) hb fun h' tk R k => ?_
  exact ⟨.ref _, upd H s.heap.objs.size (TSO X.w s.heap.objs.size (setT xs)), I.laid (t' := tk) k (Nat.le_refl _) (tso_new R), rfl, q _ (I.hok.fresh (Nat.le_refl _))⟩
end
end
/-! ### own classes: o[i], o[i] = v, x in o -/
section
open PySem PySem.Spec PyProof.Rows
variable {X : Cx} {CX : CXT} {k : Nat} {C f a dx : Addr} {fs : List (Str × V)} {fd : FuncData} {ps : List Str} {sp : Sp} {E : L2.St → XK} {pins : List (Addr × Obj)} {σ : L2.St} {H : Hp} {s : Shared}
theorem own_at (I : Inv X pins σ H s) (ea : H a = some (.ins C dx fs)) : ∃ od, PySem.W.InstAt s.heap a (PySem.W.instObj C dx) C (some od) := by
  obtain ⟨mA, O, _⟩ := ins_get I.hok ea
  obtain ⟨od, J, _⟩ := O.look
  exact ⟨od, J⟩
/-- a method of the class, called below the place -/
theorem run_in1 {us : List Value} {vs : List V} {Q : VK} (F : FnOk X.prog X.w X.K X.mg X.base CX k f fd ps sp) (hr : Room (k + 1) X.A) (hb : L2.Binds X.K fd ps []) (hx : PassesAt CX X σ (E σ)) (I : Inv X pins σ H s) (r : Vals vs us) (h : sp vs H Q (E σ)) :
    wpAny (model X.prog X.w) X.A.in1 (call (.ref f) us) (EP X pins σ Q) X.xe s := by
  have hl : (us ++ []).length = ps.length := by rw [List.append_nil, ← r.length]; exact F.len _ _ _ _ h
  have b := hb s us I.kIn hl
  rw [List.append_nil] at b
  refine wpAny_call (codeAny_mono (F.run X.A.in1 X.stack s H ⟨us, []⟩ us vs Q (E σ) hr.in1 I.env0.in1 b r h) fun q s' hq => ?_)
  match q, hq with
  | .error e, hq => exact hx pins H s e s' I hq
  | .ok (.ret u), hq => exact I.after hq
  | .ok .next, hq => exact hq.elim
  | .ok .brk, hq => exact hq.elim
  | .ok .cont, hq => exact hq.elim
theorem run_here {us : List Value} {vs : List V} {Q : VK} (F : FnOk X.prog X.w X.K X.mg X.base CX k f fd ps sp) (hr : Room k X.A) (hb : L2.Binds X.K fd ps []) (hx : PassesAt CX X σ (E σ)) (I : Inv X pins σ H s) (r : Vals vs us) (h : sp vs H Q (E σ)) :
    wpAny (model X.prog X.w) X.A (call (.ref f) us) (EP X pins σ Q) X.xe s := by
  have e0 : vs ++ ([] : List V) = vs := List.append_nil vs
  exact run_fnSD (dvs := []) F hr hb .nil hx I r (e0.symm ▸ h)
def tGetO (C : Addr) (sp : Sp) (E : L2.St → XK) (ta tb : TE) : TE := fun σ H Q => ta σ H fun x H1 => tb σ H1 fun y H2 => ∃ a dx fs, x = .ref a ∧ H2 a = some (.ins C dx fs) ∧ sp [.ref a, y] H2 Q (E σ)
theorem pe_getO {o i : Expr} {ta tb : TE} {pos : Pos} (ho : PE X o ta) (hi : PE X i tb) (hm : Meth X.K C "__getitem__" f) (hfn : PySem.W.fnIn X.K f = true) (F : FnOk X.prog X.w X.K X.mg X.base CX k f fd ps sp) (hr : Room (k + 1) X.A) (hb : L2.Binds X.K fd ps []) (hx : ∀ σ, PassesAt CX X σ (E σ))
    (hsl : ∀ v u, subscripted i true v u = runValue (.builtin "lifetime.subscript" ⟨[v, u], []⟩) := by intro _ _; with_unfolding_all rfl) : PE X (.Subscript o i pos) (tGetO C sp E ta tb) := by
  refine ⟨fun pins s σ H Q I h => ?_⟩
  refine Subscript_ (binT ho hi I h fun v u s2 x y H2 I2 rx ry q => ?_)
  obtain ⟨a, dx, fs, rfl, ea, q⟩ := q
  cases (show v = Value.ref a from rx)
  obtain ⟨od, J⟩ := own_at I2 ea
  have fi := hm.fn
  unfold PySem.W.fnIn at hfn
  split at hfn
  · rename_i e
    unfold subscriptTail getitemInPython
    refine wpAny_bind (wpAny_bind (wpAny_bind (J.type.here ((PySem.W.looks_findIn I2.kIn hm.at_).here ?_))))
    dsimp only
    refine wpAny_bind (wpAny_load (I2.kIn _ _ e) (wpAny_pure ?_))
    dsimp only
    rw [hsl]
    refine wpAny_bind (wpAny_runValue (codeAny_builtin PySem.W.entry_sub ?_))
    unfold Builtin.«lifetime.subscript»
    refine wpAny_bind (PySem.W.special_fn I2.kIn J hm.at_ (beq_iff_eq.mp fi) (wpAny_mono (run_in1 F hr hb (hx σ) I2 (vs := [.ref a, y]) (.cons rfl (.cons ry .nil)) q) (fun z s3 hz => wpAny_pure ?_) fun _ _ z => z))
    show wpAny (model X.prog X.w) X.A (letTemporaryGo o (.ref a) z >>= fun _ => pure z) _ _ s3
    exact wpAny_bind (wpAny_letTemporaryGo (wpAny_pure hz))
  · cases hfn
def gSetO (C : Addr) (sp : Sp) (E : L2.St → XK) (to ti : TE) : TG := fun v σ H Q => to σ H fun o H1 => ti σ H1 fun i H2 => ∃ a dx fs, o = .ref a ∧ H2 a = some (.ins C dx fs) ∧ sp [.ref a, i, v] H2 (fun _ H3 => Q σ H3) (E σ)
theorem pg_setO {o i : Expr} {to ti : TE} {pos : Pos} (ho : PE X o to) (hi : PE X i ti) (hm : Meth X.K C "__setitem__" f) (hq : PySem.W.noSeq X.K C = true) (F : FnOk X.prog X.w X.K X.mg X.base CX k f fd ps sp) (hr : Room k X.A) (hb : L2.Binds X.K fd ps []) (hx : ∀ σ, PassesAt CX X σ (E σ))
    (ha : ∀ v, assign (.Subscript o i pos) X.env v = (do
      let ov ← holding [v] (eval o X.env)
      let iv ← holding [v, ov] (eval i X.env)
      standAt pos
      holding [v, ov, iv] (setItem ov iv v)
      release [v, ov, iv] []) := by intro _; rfl) : PG X (.Subscript o i pos) (gSetO C sp E to ti) := by
  refine ⟨fun pins s σ H v u Q I r h => ?_⟩
  rw [ha]
  refine wpAny_bind (wpAny_holding (thn (ho.run pins s σ H _ I h) fun ov s1 ⟨x, H1, I1, r1, q1⟩ => wpAny_bind (wpAny_holding (thn (hi.run pins s1 σ H1 _ I1 q1) fun iv s2 ⟨y, H2, I2, r2, a, dx, fs, ex, ea, q2⟩ => ?_))))
  subst ex
  cases (show ov = Value.ref a from r1)
  obtain ⟨od, J⟩ := own_at I2 ea
  refine wpAny_bind (wpAny_standAt (wpAny_bind (wpAny_holding ?_)))
  unfold setItem sequenceKey
  refine wpAny_holding (wpAny_bind (wpAny_bind (J.type.here (wpAny_bind ((PySem.W.anyM_none I2.kIn hq).here ?_)))))
  rw [if_pos (show (!false) = true from rfl)]
  refine wpAny_pure (wpAny_bind (PySem.W.special_fn I2.kIn J hm.at_ (beq_iff_eq.mp hm.fn) (wpAny_mono (run_here F hr hb (hx σ) I2 (vs := [.ref a, y, v]) (.cons rfl (.cons r2 (.cons r .nil))) q2) (fun z s3 hz => wpAny_pure ?_) fun _ _ z => z)))
  obtain ⟨_, H3, I3, _, q3⟩ := hz
  exact wpAny_release ⟨σ, H3, I3, q3⟩
/-- x in o; x not in o: __contains__ gives a truth value -/
def rInO (C : Addr) (neg : Bool) (sp : Sp) : R2 := fun x y H Q => ∃ a dx fs, y = .ref a ∧ H a = some (.ins C dx fs) ∧ sp [.ref a, x] H (fun v H' => ∃ b, v = .bl b ∧ Q (.bl (if neg = true then !b else b)) H') E0
theorem has_own {Q : Bool → Shared → Prop} {x : V} {v : Value} (I : Inv X pins σ H s) (rx : RelV x v) (ea : H a = some (.ins C dx fs)) (hm : Meth X.K C "__contains__" f) (F : FnOk X.prog X.w X.K X.mg X.base CX0 k f fd ps sp) (hr : Room k X.A) (hb : L2.Binds X.K fd ps []) {Qb : Bool → Hp → Prop}
    (h : sp [.ref a, x] H (fun v H' => ∃ b, v = .bl b ∧ Qb b H') E0) (hQ : ∀ b s' H', Inv X pins σ H' s' → Qb b H' → Q b s') : wpAny (model X.prog X.w) X.A (contains (.ref a) v) Q X.xe s := by
  obtain ⟨od, J⟩ := own_at I ea
  unfold contains
  refine wpAny_holding (wpAny_bind (wpAny_bind (J.type.here ((PySem.W.looks_findIn I.kIn hm.at_).here ?_))))
  rw [if_neg (by simp)]
  refine wpAny_bind (PySem.W.unlessNone_K I.kIn J hm.at_ hm.fn (wpAny_mono (run_here (E := fun _ => E0) F hr hb (fun _ _ _ _ _ _ z => z.elim) I (vs := [.ref a, x]) (.cons rfl (.cons rx .nil)) h) (fun z s3 hz => ?_) fun _ _ z => z))
  obtain ⟨w, H3, I3, rw', b, rfl, q⟩ := hz
  cases (show z = Value.bool b from rw')
  exact wpAny_truthy_bool (hQ b s3 H3 I3 q)
theorem op_inO (hm : Meth X.K C "__contains__" f) (F : FnOk X.prog X.w X.K X.mg X.base CX0 k f fd ps sp) (hr : Room k X.A) (hb : L2.Binds X.K fd ps []) : OpR X (compareOp .In) (rInO C false sp) := by
  intro pins s σ H x y v u Q I rx ry h
  obtain ⟨a, dx, fs, rfl, ea, q⟩ := h
  cases (show u = Value.ref a from ry)
  exact wpAny_bind (has_own I rx ea hm F hr hb (Qb := fun b H' => Q (.bl b) H') q fun b s' H' I' q' => wpAny_pure ⟨.bl b, H', I', rfl, q'⟩)
theorem op_notInO (hm : Meth X.K C "__contains__" f) (F : FnOk X.prog X.w X.K X.mg X.base CX0 k f fd ps sp) (hr : Room k X.A) (hb : L2.Binds X.K fd ps []) : OpR X (compareOp .NotIn) (rInO C true sp) := by
  intro pins s σ H x y v u Q I rx ry h
  obtain ⟨a, dx, fs, rfl, ea, q⟩ := h
  cases (show u = Value.ref a from ry)
  exact wpAny_bind (has_own I rx ea hm F hr hb (Qb := fun b H' => Q (.bl (!b)) H') q fun b s' H' I' q' => wpAny_pure ⟨.bl (!b), H', I', rfl, q'⟩)
theorem passL0 {X : Cx} {σ : L2.St} : PassesAt (L2.CX X.prog X.w) X σ E0 := fun pins H s e s' I c => passL pins σ H s e s' I c
end
/-! ### rules within a comprehension: the text's K by name -/
section
variable {X : Cx} {K : PySem.W.Frag}
theorem pe_fldK {o : Expr} {f : Str} {pos : Pos} {ta : TE} (hK : X.K = K) (ho : PE X o ta) (hab : attributeBase o f X.env (eval o X.env) = eval o X.env) : PE X (.Attribute o f pos) (tFld K ta f) := hK ▸ pe_fld ho hab
theorem op_inK (hK : X.K = K) : OpR X (compareOp .In) (rIn K false) := hK ▸ op_in_seq
theorem op_notInK (hK : X.K = K) : OpR X (compareOp .NotIn) (rIn K true) := hK ▸ op_notIn_seq
theorem ix_listK (hK : X.K = K) : IxR X (rIxL K) := hK ▸ ix_list
theorem ix_tupK (hK : X.K = K) : IxR X (rIxT K) := hK ▸ ix_tup
theorem op_eqDK (hK : X.K = K) (hu : X.A.units + 64 < cLine) : OpR X (compareOp .Eq) (rEqD K) := hK ▸ op_eqD hu
theorem op_neDK (hK : X.K = K) (hu : X.A.units + 64 < cLine) : OpR X (compareOp .NotEq) (rNeD K) := hK ▸ op_neD hu
end
/-! ### staticmethods by a promise on positional values -/
section
variable {X : Cx} {CX : CXT} {k : Nat} {C p f : Addr} {mc : Value} {sp : Sp} {E : XK} {o e : Expr} {es : List Expr} {m : Str} {pos apos : Pos} {ta : TE} {t : TA} {pl : Sem Bool}
def tSMethR (C : Addr) (sp : Sp) (E : XK) (ta : TE) (t : TA) : TE := fun σ H Q => ta σ H fun x H1 => x = .ref C ∧ t σ H1 fun vs H2 => sp vs H2 Q E
theorem pe_smethR (he : PE X o ta) (r : ClX.CRead X.K C mc) (c : SMet X.K C mc m p f) (F : FnR X.prog X.w X.K X.mg X.base CX k f sp) (hr : Room k X.A) (hk : PySem.W.keepIn X.K (.ref f) = true) (hx : Passes CX X E) (ha : PA X (e :: es) t)
    (hst : starEach (e :: es) X.env = (false, eval e X.env) :: starEach es X.env := by rfl) (hpl : (backTo pos (starEach es X.env)).any (·.1) = false := by rfl)
    (ht : eval (.Call (.Attribute o m apos) (e :: es) [] pos) X.env = (do
      let ov ← eval o X.env
      standAt apos.atName
      let (f, first) ← holding [ov] (getMethod ov m pl)
      callWith pos f first (backTo pos (starEach (e :: es) X.env)) (backToKw pos (keywordEach [] X.env))) := by rfl) :
    PE X (.Call (.Attribute o m apos) (e :: es) [] pos) (tSMethR C sp E ta t) := by
  refine ⟨fun pins s σ H Q I h => ?_⟩
  refine PySem.W.methodCall_KW (pl := pl) (thn (he.run pins s σ H _ I h) fun u s1 ⟨x, H1, I1, rx, ex, q⟩ => ?_) ht
  subst ex
  obtain rfl : u = Value.ref C := rx
  obtain ⟨rest, hp⟩ := c.rc
  refine PySem.W.method_cls I1.kIn r.ga (PySem.W.cls_bind I1.kIn r.rd c.at_ ?_)
  refine wpAny_call (PySem.W.sm_get (s := { s1 with toks := s1.toks + 1 }) I1.kIn hp (PySem.W.handed_on rfl ?_))
  have I2 := I1.tok (s1.toks + 1)
  refine PySem.W.callWith_K (h₀ := X.base) (first := []) I2.ok.mod.kin hk (thn (ha.run pos pins _ σ H1 _ I2 q) fun us s3 ⟨vs, H2, I3, rv, q2⟩ => ⟨I3.kIn, ?_⟩) hst hpl
  exact wpAny_call (run_fnR F hr hx I3 rv q2)
theorem pe_smethR0 (he : PE X o ta) (r : ClX.CRead X.K C mc) (c : SMet X.K C mc m p f) (F : FnR X.prog X.w X.K X.mg X.base CX k f sp) (hr : Room k X.A) (hk : PySem.W.keepIn X.K (.ref f) = true) (hx : Passes CX X E)
    (ht : eval (.Call (.Attribute o m apos) [] [] pos) X.env = (do
      let ov ← eval o X.env
      standAt apos.atName
      let (f, first) ← holding [ov] (getMethod ov m pl)
      callWith pos f first (backTo pos (starEach [] X.env)) (backToKw pos (keywordEach [] X.env))) := by rfl) :
    PE X (.Call (.Attribute o m apos) [] [] pos) (tSMethR C sp E ta tNil) := by
  refine ⟨fun pins s σ H Q I h => ?_⟩
  refine PySem.W.methodCall_KW (pl := pl) (thn (he.run pins s σ H _ I h) fun u s1 ⟨x, H1, I1, rx, ex, q⟩ => ?_) ht
  subst ex
  obtain rfl : u = Value.ref C := rx
  obtain ⟨rest, hp⟩ := c.rc
  refine PySem.W.method_cls I1.kIn r.ga (PySem.W.cls_bind I1.kIn r.rd c.at_ ?_)
  refine wpAny_call (PySem.W.sm_get (s := { s1 with toks := s1.toks + 1 }) I1.kIn hp (PySem.W.handed_on rfl ?_))
  have I2 := I1.tok (s1.toks + 1)
  exact PySem.W.callWith_K0 (first := []) I2.kIn hk (wpAny_call (run_fnR (us := []) (vs := []) F hr hx I2 .nil q))
end
/-! ### own operators -/
section
open PySem PySem.Spec PyProof.Rows
variable {X : Cx} {CX : CXT} {k : Nat} {C f : Addr} {fd : FuncData} {ps : List Str} {sp : Sp} {E : XK}
/-- x op y, both instances of C; what comes back is an object -/
def rOwn (C : Addr) (sp : Sp) (E : XK) : R2 := fun x y H Q => ∃ p q dx dy fs gs, x = .ref p ∧ y = .ref q ∧ H p = some (.ins C dx fs) ∧ H q = some (.ins C dy gs) ∧ sp [.ref p, .ref q] H (fun v H' => (∃ r, v = .ref r) ∧ Q v H') E
theorem op_own {op : Operator} (hs : PySem.W.findIn X.K (.ref C) (PySem.dunder op.info.2) = some (some (.ref f))) (hf : PySem.W.isFn X.K (.ref f) = true) (hc : PySem.W.selfFirst X.K C = true) (F : FnOk X.prog X.w X.K X.mg X.base CX k f fd ps sp) (hr : Room k X.A) (hb : L2.Binds X.K fd ps []) (hx : Passes CX X E) : OpR X (binaryOp op) (rOwn C sp E) := by
  intro pins s σ H x y v u Q I rx ry h
  obtain ⟨p, q, dx, dy, fs, gs, rfl, rfl, hp, hq, h⟩ := h
  cases (show v = Value.ref p from rx)
  cases (show u = Value.ref q from ry)
  obtain ⟨od, J⟩ := own_at I hp
  obtain ⟨od', J'⟩ := own_at I hq
  obtain ⟨m, hF⟩ := I.fr
  refine PySem.W.binop_K hF I.ok.mod.kin J J'.type hc hs hf ?_
  refine wpAny_mono (run_fn (us := [.ref p, .ref q]) (vs := [.ref p, .ref q]) (dvs := []) F hr hb .nil hx I (.cons rfl (.cons rfl .nil)) h) (fun z s' hz => ?_) fun _ _ e => e
  obtain ⟨w', H', I', rw', ⟨r, er⟩, q'⟩ := hz
  subst er
  cases (show z = Value.ref r from rw')
  exact ⟨.ref r, H', I', rfl, q'⟩
/-- ~x -/
def rUOwn (C : Addr) (sp : Sp) (E : XK) : V → Hp → VK → Prop := fun x H Q => ∃ p dx fs, x = .ref p ∧ H p = some (.ins C dx fs) ∧ sp [.ref p] H Q E
theorem un_own (hs : PySem.W.findIn X.K (.ref C) "__invert__" = some (some (.ref f))) (hf : PySem.W.isFn X.K (.ref f) = true) (F : FnOk X.prog X.w X.K X.mg X.base CX k f fd ps sp) (hr : Room k X.A) (hb : L2.Binds X.K fd ps []) (hx : Passes CX X E) : UnR X (unaryOp .Invert) (rUOwn C sp E) := by
  intro pins s σ H x v Q I rx h
  obtain ⟨p, dx, fs, rfl, hp, h⟩ := h
  cases (show v = Value.ref p from rx)
  obtain ⟨od, J⟩ := own_at I hp
  obtain ⟨m, hF⟩ := I.fr
  refine PySem.W.ksp_inv hF I.ok.mod.kin J hs hf ?_
  exact run_fn (us := [.ref p]) (vs := [.ref p]) (dvs := []) F hr hb .nil hx I (.cons rfl .nil) h
end
section
open PySem PySem.Spec PyProof.Rows PpSet
/-! ### set(list of truth values), its len -/
def memB (xs : List Bool) : Bool → Bool := fun b => decide (b ∈ xs)
def cntB (xs : List Bool) : Nat := (if memB xs true = true then 1 else 0) + (if memB xs false = true then 1 else 0)
theorem memB_take {xs : List Bool} {i : Nat} {z : Bool} (h : xs[i]? = some z) (j : Bool) : memB (xs.take (i + 1)) j = (memB (xs.take i) j || decide (j = z)) := by
  unfold memB
  rw [List.take_add_one, h, ← Bool.decide_or]
  apply decide_eq_decide.mpr
  rw [List.mem_append]
  simp
theorem cntB_take {xs : List Bool} {i : Nat} {z : Bool} (h : xs[i]? = some z) : cntB (xs.take (i + 1)) = if memB (xs.take i) z = true then cntB (xs.take i) else cntB (xs.take i) + 1 := by
  unfold cntB
  rw [memB_take h, memB_take h]
  cases z <;> cases memB (xs.take i) true <;> cases memB (xs.take i) false <;> rfl
theorem cntB_le {xs : List Bool} : cntB xs ≤ 2 := by
  unfold cntB
  split <;> split <;> omega
section
variable {P : Program} {w : World} {A : Around} {E : Value → Shared → Prop} {s : Shared}
theorem bs_update {I : Addr} {fp wr : List Addr} {G : Array GenState → Array GenState → Prop} {n : Nat} {Pv : Nat → Value → Prop} {St : Nat → Shared → Prop} {R : Result → Shared → Prop}
    (W : WalksS P w A.in1 I fp wr G n Pv St) (S : Addr) (hSf : S ∉ fp) (xs : List Bool) (hn : n = xs.length) (hval : ∀ i v, Pv i v → ∃ k, xs[i]? = some k ∧ v = .bool k) :
    ∀ (k i : Nat) (s : Shared), n - i = k → i ≤ n → St i s → SetB w s.heap S (memB (xs.take i)) (cntB (xs.take i)) → (∀ s', Moved (S :: wr) G s s' → SetB w s'.heap S (memB xs) (cntB xs) → R (.ok (.ret .none)) s') →
      codeAny (model P w) A (.builtin "set.update.loop" ⟨[.ref S, .ref I], []⟩) R s := by
  have nw : S ∉ wr := fun h => hSf (W.sub _ h)
  have inc : ∀ b ∈ wr, b ∈ S :: wr := fun b hb => List.mem_cons_of_mem _ hb
  intro k
  induction k with
  | zero =>
    intro i s hk hi st hS hR
    obtain rfl : i = n := by omega
    refine codeAny_builtin F.entry_set_update_loop ?_
    rw [Around.under_plainId F.plain_set_update_loop _]
    show wpAny _ A.in1 (pyNext (.ref I) >>= _) _ _ s
    refine wpAny_bind (W.done s _ _ st fun s' hm => ?_)
    rw [List.take_of_length_le (by omega)] at hS
    exact wpAny_pure (hR s' (hm.mono inc) (hS.at fun o e => hm.heap S o nw e))
  | succ k ih =>
    intro i s hk hi st hS hR
    have lt : i < n := by omega
    refine codeAny_builtin F.entry_set_update_loop ?_
    rw [Around.under_plainId F.plain_set_update_loop _]
    show wpAny _ A.in1 (pyNext (.ref I) >>= _) _ _ s
    refine wpAny_bind (W.item i s _ _ lt st fun v s' hP st' hm => ?_)
    obtain ⟨z, hz, rfl⟩ := hval i v hP
    have hS' := hS.at (h' := s'.heap) fun o e => hm.heap S o nw e
    have hl : cntB (xs.take i) + 1 < scanBound := by
      have h1 := cntB_le (xs := xs.take i)
      have : scanBound = 4096 := rfl
      omega
    show wpAny _ A.in1 (holding [Value.bool z] (setAdd S (.bool z)) >>= _) _ _ s'
    refine wpAny_bind (wpAny_holding ?_)
    unfold setAdd
    refine wpAny_holding (wpAny_bind ((boolK P w).pyHash (boolK_is P w z) (setB_add_hashed (s := { s' with toks := s'.toks + 1 }) hS' hl fun h' sb hS2 => ?_)))
    have hS2 : SetB w h' S (memB (xs.take (i + 1))) (cntB (xs.take (i + 1))) := by
      rw [cntB_take hz]
      exact hS2.congr fun j => memB_take hz j
    refine wpAny_pure ⟨plainId_quiet F.plain_set_update_loop _, ih (i + 1) _ (by omega) lt (W.frame _ s' _ _ st' (Nat.le_succ _) fun b hb o e => ?_) hS2 fun s2 m2 q2 => ?_⟩
    · rw [sb.2 b (fun h : b = S => hSf (h ▸ hb))]; exact e
    · refine hR s2 (Moved.trans W.gtrans ((hm.mono inc).then_heap (Nat.le_succ _) fun b o hb e => ?_) m2) q2
      rw [sb.2 b (fun h : b = S => hb (h ▸ List.mem_cons_self))]; exact e
inductive BoolsB : List Value → List Bool → Prop
  | nil : BoolsB [] []
  | cons (b : Bool) {vs bs} : BoolsB vs bs → BoolsB (.bool b :: vs) (b :: bs)
theorem bools_at : ∀ {vs : List Value} {xs : List Bool}, BoolsB vs xs → ∀ {i : Nat} {v : Value}, vs[i]? = some v → ∃ k, xs[i]? = some k ∧ v = .bool k
  | _, _, .nil, i, v, h => by simp at h
  | _, _, .cons y r, i, v, h => by
    cases i with
    | zero =>
      cases h
      exact ⟨y, rfl, rfl⟩
    | succ i => exact bools_at r h
theorem bools_len : ∀ {vs : List Value} {xs : List Bool}, BoolsB vs xs → vs.length = xs.length
  | _, _, .nil => rfl
  | _, _, .cons y r => congrArg Nat.succ (bools_len r)
theorem vals_bools : ∀ {xs : List Bool} {vs : List Value}, Vals (xs.map V.bl) vs → BoolsB vs xs
  | [], _, .nil => .nil
  | b :: xs, _, .cons e r => by
    cases (show _ = Value.bool b from e)
    exact .cons b (vals_bools r)
set_option maxHeartbeats 4000000 in
theorem bs_ofList {l : Addr} {items : Array Value} {xs : List Bool} {Q : Value → Shared → Prop} (hh : A.handled = none) (hl : s.heap.IsList l items) (hi : BoolsB items.toList xs)
    (h : ∀ (h' : Heap) (tk : Nat), SetB w h' s.heap.objs.size (memB xs) (cntB xs) → (∀ b o, s.heap.get? b = some o → h'.get? b = some o) → Q (.ref s.heap.objs.size) { s with heap := h', toks := tk }) : wpAny (model P w) A (call (.type "set") [.ref l]) Q E s := by
  have hz : items.size = xs.length := by
    have q := bools_len hi
    rwa [Array.length_toList] at q
  obtain ⟨c, tl, hmro⟩ := F.called_set.mro
  have hmade := F.called_set.made
  have hsub := F.called_set.sub
  refine wpAny_call (codeAny_of_tree ?_)
  show wpAny _ _ (callAny (.type "set") _) _ _ _
  refine wpAny_pure ⟨Code.quiet_builtin _ (by decide +kernel), codeAny_builtin F.entry_type_call ?_⟩
  rw [Around.under_plain (weight_type_call_type "set" [.ref l] []) rfl]
  have h1 := F.called_set.notType
  have h2 := F.called_set.canCreate
  have hct := F.typeCall_set_1 (.ref l)
  repeat (any_goals (first | assumption | wp_step))
  refine codeAny_mono (L2.code_set_led1 (.ref l) (E := E) (Q₁ := fun obj z => obj = .ref s.heap.objs.size ∧ z = { s with heap := s.heap.push (set0 w) }) ⟨rfl, rfl⟩) fun r s1 hr => ?_
  cases r with
  | error e => exact hr
  | ok fl =>
    cases fl with
    | ret obj =>
      obtain ⟨rfl, rfl⟩ := hr
      have hS : (s.heap.push (set0 w)).get? s.heap.objs.size = some (set0 w) := Heap.get?_push_size _ rfl
      have hT : Shared.TypeIs { s with heap := s.heap.push (set0 w) } (.ref s.heap.objs.size) "set" := ⟨_, hS, rfl⟩
      have hli := F.called_set.init.lookup
      have hbi := F.called_set.init.bind (.ref s.heap.objs.size)
      repeat (any_goals (first | assumption | wp_step))
      refine codeAny_mono (codeAny_call_builtin (R := wants (fun r z => r = .none ∧ ∃ h' tk, z = { s with heap := h', toks := tk } ∧ SetB w h' s.heap.objs.size (memB xs) (cntB xs) ∧ ∀ b o, s.heap.get? b = some o → h'.get? b = some o) E) F.called_set.init.plain F.entry_set_init (check_set_init_1 hT ?_)) fun r2 s2 hr2 => ?_
      · obtain ⟨ol, hol, hcl, nl, hdl⟩ := hl
        obtain ⟨oc, od, oda, os⟩ := ol
        simp only at hcl hdl
        subst hcl hdl
        have ho' : (s.heap.push (set0 w)).get? l = some { cls := .type "list", dict := od, data := .seq items nl, slots := os } := Heap.get?_push_of_some _ hol
        have hsls := F.sub_list_set
        have hslf := F.sub_list_frozenset
        have hne : (Value.type "list" == Value.type "dict") = false := by decide
        have hl1 : (s.heap.push (set0 w)).IsList l items := ⟨_, ho', rfl, nl, rfl⟩
        unfold Builtin.«set.__init__» noKeywords Builtin.Frozenset.updateFrom
        generalize hPI : pyIter = PI
        wp_walk
        subst hPI
        refine wpAny_pyIter_list hl1 (wpAny_bind (wpAny_runValue ?_))
        have hlS : l < s.heap.objs.size := Heap.lt_size hol
        have h3 : A.in1.in1.in1.handled = none := by simp [hh]
        have sz : (s.heap.push (set0 w)).objs.size = s.heap.objs.size + 1 := Heap.size_push ..
        refine bs_update ((Walks.list h3 _ l (by rw [sz]; exact Nat.ne_of_lt (Nat.lt_succ_of_lt hlS)) items).toS) s.heap.objs.size ?_ xs hz (fun i v hv => bools_at hi (by rw [Array.getElem?_toList]; exact hv)) (items.size - 0) 0 _ (by omega) (Nat.zero_le _)
          ⟨⟨_, Heap.get?_push_size _ rfl, rfl, rfl⟩, hl1.push _⟩ ((setB_fresh w).at fun o e => by rw [Heap.get?_push_size _ rfl] at e; cases e; exact Heap.get?_push_of_some _ hS) fun s' hm hS' => ?_
        · rw [sz]
          simp only [List.mem_cons, List.not_mem_nil, or_false, not_or]
          exact ⟨Nat.ne_of_lt (Nat.lt_succ_self _), Nat.ne_of_gt hlS⟩
        · obtain ⟨h', g2, d', tk', os'⟩ := s'
          have eg : g2 = s.gens := hm.gens
          have ed : d' = s.drawn := hm.drawn
          have eo : os' = s.os := hm.os
          subst eg ed eo
          show wpAny _ _ _ _ _ _
          refine wpAny_pure ?_
          show wpAny _ _ (ret Value.none) _ _ _
          refine wpAny_pure ⟨rfl, h', tk', rfl, hS', fun b o e => ?_⟩
          have b0 := Heap.lt_size e
          refine hm.heap b o ?_ (Heap.get?_push_of_some _ (Heap.get?_push_of_some _ e))
          rw [sz]
          simp only [List.mem_cons, List.not_mem_nil, or_false, not_or]
          exact ⟨Nat.ne_of_lt b0, Nat.ne_of_lt (Nat.lt_succ_of_lt b0)⟩
      · cases r2 with
        | error e => exact hr2
        | ok fl2 =>
          cases fl2 with
          | ret r =>
            obtain ⟨rfl, h', tk, rfl, hS', hk'⟩ := hr2
            repeat (any_goals (first | assumption | wp_step))
            exact h _ _ hS' hk'
          | _ => exact hr2.elim
    | _ => exact hr.elim
end
section
variable {X : Cx}
/-- set(xs), xs a list of truth values -/
theorem cr_setBL (hc : X.calm = true) : CallR X (.type "set") (fun vs H Q => ∃ (p : Addr) (xs : List Bool), vs = [V.ref p] ∧ SqL X.K H p (xs.map V.bl) ∧ ∀ q, H q = none → Q (.ref q) (upd H q (SetBO X.w q (memB xs) (cntB xs)))) := by
  intro pins s σ H vs us Q I r h
  obtain ⟨p, xs, rfl, hs, q⟩ := h
  rw [Vals.ref1 r]
  obtain ⟨its, rv, hl, _⟩ := I.list hs
  refine bs_ofList (I.ok.hd hc) hl.isList (xs := xs) (by simpa using vals_bools rv) fun h' tk R k => ?_
  exact ⟨.ref _, upd H s.heap.objs.size (SetBO X.w s.heap.objs.size (memB xs) (cntB xs)), I.laid (t' := tk) k (Nat.le_refl _) (setBO_new R), rfl, q _ (I.hok.fresh (Nat.le_refl _))⟩
/-- len of it -/
theorem cr_lenB : CallR X (.builtin "len") (fun vs H Q => ∃ (a : Addr) (S : Bool → Bool) (n : Nat), vs = [V.ref a] ∧ H a = some (SetBO X.w a S n) ∧ n < 4000 ∧ Q (.int (n : Int)) H) := by
  intro pins s σ H vs us Q I r h
  obtain ⟨a, S, n, rfl, ha, hn, q⟩ := h
  rw [Vals.ref1 r]
  obtain ⟨o, es, ep, t, ho, hex, hd, g, nd, hm, hb, hf, hsz, _⟩ := setBO_get I ha
  have h4 : scanBound = 4096 := rfl
  refine PySem.call_len_set ho hex hd hf (by omega) ⟨.int _, H, I.tok _, ?_, q⟩
  rw [hsz]
  exact ⟨_, rfl⟩
end
end
/-! ### str(x) by an own __str__ -/
section
open PySem PySem.Spec PyProof.Rows
variable {X : Cx} {k : Nat} {C f : Addr} {fd : FuncData} {ps : List Str} {sp : Sp}
theorem call_strOwn (hs : PySem.W.findIn X.K (.ref C) "__str__" = some (some (.ref f))) (hf : PySem.W.isFn X.K (.ref f) = true) (F : FnOk X.prog X.w X.K X.mg X.base CX0 k f fd ps sp) (hr : Room (k + 2) X.A) (hb : L2.Binds X.K fd ps []) :
    CallR X (.type "str") (fun vs H Q => ∃ p dx fs, vs = [.ref p] ∧ H p = some (.ins C dx fs) ∧ sp [.ref p] H (fun v H' => (∃ z : Str, v = .str z) ∧ Q v H') E0) := by
  intro pins s σ H vs us Q I r h
  obtain ⟨p, dx, fs, rfl, hp, h⟩ := h
  rw [Vals.ref1 r]
  obtain ⟨od, J⟩ := own_at I hp
  have hr2 : Room k X.A.in1.in1 := (Room.in1 (Room.in1 hr))
  have hl : ([Value.ref p] ++ []).length = ps.length := F.len _ _ _ _ h
  have b := hb s [Value.ref p] I.kIn hl
  rw [List.append_nil] at b
  refine PySem.W.kso_call hr2.units0 I.kIn J hs hf ?_
  refine wpAny_call (codeAny_mono (F.run X.A.in1.in1 X.stack s H ⟨[.ref p], []⟩ [.ref p] [.ref p] (fun v H' => (∃ z : Str, v = .str z) ∧ Q v H') E0 hr2 I.env0.in1.in1 b (.cons rfl .nil) h) fun q s' hq => ?_)
  match q, hq with
  | .error e, hq => exact hq.elim
  | .ok (.ret u), hq =>
    obtain ⟨v, H', I', rv, ⟨z, ez⟩, q'⟩ := I.after hq
    subst ez
    obtain ⟨t, rfl⟩ := rv
    exact ⟨.str z, H', I', ⟨t, rfl⟩, q'⟩
  | .ok .next, hq => exact hq.elim
  | .ok .brk, hq => exact hq.elim
  | .ok .cont, hq => exact hq.elim
end
/-! ### == and != by an own __eq__ -/
section
open PySem PySem.Spec PyProof.Rows
variable {X : Cx} {k : Nat} {C f : Addr} {fd : FuncData} {ps : List Str} {sp : Sp}
/-- what stands at the right -/
inductive Rhs (K : PySem.W.Frag) (C : Addr) (H : Hp) : V → Prop
  | ins {q dx : Addr} {fs : List (Str × V)} (h : H q = some (.ins C dx fs)) : Rhs K C H (.ref q)
  | tup {q : Addr} {xs : List V} (h : H q = some (.tup xs)) (n : PySem.W.notFirst K C (.type "tuple") = true) : Rhs K C H (.ref q)
  | str (z : Str) (n : PySem.W.notFirst K C (.type "str") = true) : Rhs K C H (.str z)
  | non (n : PySem.W.notFirst K C (.type "NoneType") = true) : Rhs K C H .non
theorem rhs_looks {pins : List (Addr × Obj)} {σ : L2.St} {H : Hp} {s : Shared} {y : V} {u : Value} (I : Inv X pins σ H s) (ry : RelV y u) (h : Rhs X.K C H y) : ∃ tb, PySem.W.Looks (model X.prog X.w) s.heap (typeOf u) tb ∧ PySem.W.notFirst X.K C tb = true := by
  cases h with
  | @ins q dx fs h =>
    cases (show u = Value.ref q from ry)
    obtain ⟨od, J⟩ := own_at I h
    exact ⟨_, J.type, by simp [PySem.W.notFirst]⟩
  | @tup q xs h n =>
    cases (show u = Value.ref q from ry)
    obtain ⟨its, rv, ⟨o, e, hc, _⟩, _⟩ := I.tuple (SqT.of h)
    exact ⟨.type "tuple", by rw [← hc]; exact (PySem.W.Looks.ld e).andThen .now, n⟩
  | str z n =>
    obtain ⟨t, rfl⟩ := ry
    exact ⟨_, PySem.W.Looks.of_pure rfl, n⟩
  | non n =>
    cases (show u = Value.none from ry)
    exact ⟨_, PySem.W.Looks.of_pure rfl, n⟩
def rEqO (K : PySem.W.Frag) (C : Addr) (sp : Sp) : R2 := fun x y H Q => ∃ p dx fs, x = .ref p ∧ H p = some (.ins C dx fs) ∧ Rhs K C H y ∧ sp [.ref p, y] H (fun v H' => ∃ b, v = .bl b ∧ Q (.bl b) H') E0
theorem op_eqOwn (hs : PySem.W.findIn X.K (.ref C) "__eq__" = some (some (.ref f))) (hf : PySem.W.isFn X.K (.ref f) = true) (F : FnOk X.prog X.w X.K X.mg X.base CX0 k f fd ps sp) (hr : Room k X.A) (hb : L2.Binds X.K fd ps []) : OpR X (compareOp .Eq) (rEqO X.K C sp) := by
  intro pins s σ H x y v u Q I rx ry h
  obtain ⟨p, dx, fs, rfl, hp, hy, h⟩ := h
  cases (show v = Value.ref p from rx)
  obtain ⟨od, J⟩ := own_at I hp
  obtain ⟨m, hF⟩ := I.fr
  obtain ⟨tb, L1, L2⟩ := rhs_looks I ry hy
  refine PySem.W.cmp_K (op := .Eq) (tb := tb) hr.units0 hF I.ok.mod.kin J L1 L2 hs hf ?_
  refine wpAny_mono (run_fn (us := [.ref p, u]) (vs := [.ref p, y]) (dvs := []) (E := E0) F hr hb .nil (fun _ _ _ _ _ _ _ z => z.elim) I (.cons rfl (.cons ry .nil)) h) (fun z s' hz => ?_) fun _ _ e => e
  obtain ⟨w', H', I', rw', b, eb, q'⟩ := hz
  subst eb
  cases (show z = Value.bool b from rw')
  exact ⟨.bl b, H', I', rfl, q'⟩
theorem ifBound_B {K : PySem.W.Frag} {M : Model} {A : Around} {E : Value → Shared → Prop} {s : Shared} {x C : Addr} {ox : Obj} {od : Option Obj} {name : Str} {id : String} {args : List Value} {Q : Option Value → Shared → Prop} (X : K.In s.heap) (I : PySem.W.InstAt s.heap x ox C od) (hs : PySem.W.findIn K (.ref C) name = some (some (.builtin id)))
    (hb : ∀ self, bindSpecial (.builtin id) self = pure (.builtin id, [self])) (h : wpAny M A (call (.builtin id) (.ref x :: args)) (fun v => Q (some v)) E s) : wpAny M A (callSpecialIfBound? (.ref x) name args) Q E s := by
  simp only [callSpecialIfBound?, bindSpecialIfBound?]
  refine wpAny_holding (wpAny_bind (wpAny_bind (wpAny_bind (I.type.here ((PySem.W.looks_findIn X hs).here ?_)))))
  refine wpAny_bind (wpAny_askSetting (wpAny_ite ?_))
  have fin : wpAny M A (call (.builtin id) ([.ref x] ++ args) >>= fun v => pure (some v)) Q E s := wpAny_bind (wpAny_mono h (fun v s' h' => wpAny_pure h') fun _ _ h' => h')
  split
  · exact wpAny_bind ((PySem.W.Looks.of_pure (hb _)).here (wpAny_pure (by exact fin)))
  · exact wpAny_tryCatch (wpAny_bind ((PySem.W.Looks.of_pure (hb _)).here (wpAny_pure (by exact fin))))
/-- object.__ne__ over an own __eq__ that gives a truth value -/
theorem ne_own {K : PySem.W.Frag} {prog : Program} {w : World} {A : Around} {E : Value → Shared → Prop} {s : Shared} {x C f : Addr} {ox : Obj} {od : Option Obj} {b : Value} {Q : Value → Shared → Prop} (hu : A.in1.units < cLine) (X : K.In s.heap) (I : PySem.W.InstAt s.heap x ox C od) (hm : PySem.W.mroIn K C (.type "object") = some true)
    (he : PySem.W.findIn K (.ref C) "__eq__" = some (some (.ref f))) (hf : PySem.W.isFn K (.ref f) = true) (h : wpAny (model prog w) A.in1 (call (.ref f) [.ref x, b]) (fun v s' => ∃ c, v = .bool c ∧ Q (.bool (!c)) s') E s) : wpAny (model prog w) A (call (.builtin "object.__ne__") [.ref x, b]) Q E s := by
  refine wpAny_call (codeAny_call_builtin PySem.F.cmp_object.ne.plain PySem.F.cmpEntry_ne (PySem.W.check_slot (i := "object.__ne__") (owner := "object") (n := "__ne__") PySem.F.cmpKind_ne PySem.F.cmpSplit_ne (I.type.andThen (PySem.W.looks_mroIn X hm)) (PySem.F.cmpArgs_ne _ _) ?_))
  unfold Builtin.«object.__ne__»
  refine wpAny_bind (wpAny_pure ?_)
  refine wpAny_bind (m := cRoomFor _ _) (wpAny_cRoomFor hu ?_)
  refine wpAny_bind (m := callSpecialIfBound? (.ref x) (Str.ofString "__eq__") _) (PySem.W.ifBound_K X I he hf (wpAny_mono h (fun r s' hq => ?_) fun _ _ y => y))
  obtain ⟨c, rfl, q⟩ := hq
  exact wpAny_bind (wpAny_truthy_bool (wpAny_pure q))
/-- all that the laws ask of a class with an own __eq__ -/
structure EqC (K : PySem.W.Frag) (C : Addr) : Prop where
  ha : PySem.W.findIn K (.ref C) "__class__" = some (some (.builtin "object.__class__"))
  hn : PySem.W.specialIn K (.builtin "object.__class__") "__get__" = some (some (.builtin "getset_descriptor.__get__"))
  ht : PySem.W.takesIn K (.builtin "object.__class__") = some true
  hm : PySem.W.mroIn K C (.type "object") = some true
  kO : PySem.W.kitOne K (.ref C) (.ref C) = some true
  kT : PySem.W.kitOne K (.type "tuple") (.ref C) = some false
  kS : PySem.W.kitOne K (.type "str") (.ref C) = some false
  kN : PySem.W.kitOne K (.type "NoneType") (.ref C) = some false
  nT : PySem.W.notFirst K C (.type "tuple") = true
  nS : PySem.W.notFirst K C (.type "str") = true
  nN : PySem.W.notFirst K C (.type "NoneType") = true
  ne : PySem.W.findIn K (.ref C) "__ne__" = some (some (.builtin "object.__ne__"))
theorem bind_ne (self : Value) : bindSpecial (.builtin "object.__ne__") self = pure (.builtin "object.__ne__", [self]) := rfl
theorem cmp_B {K : PySem.W.Frag} {prog : Program} {w : World} {A : Around} {E : Value → Shared → Prop} {s : Shared} {x C : Addr} {ox : Obj} {od : Option Obj} {b tb : Value} {op : CmpOp} {id : String} {Q : Value → Shared → Prop} (hu : A.units < cLine) (X : K.In s.heap) (I : PySem.W.InstAt s.heap x ox C od) (hb : PySem.W.Looks (model prog w) s.heap (typeOf b) tb) (hn : PySem.W.notFirst K C tb = true)
    (hs : PySem.W.findIn K (.ref C) (cmpInfo op).2.1 = some (some (.builtin id))) (hd : ∀ self, bindSpecial (.builtin id) self = pure (.builtin id, [self]))
    (h : wpAny (model prog w) A (call (.builtin id) [.ref x, b]) (PySem.W.CmpBack Q) E s) : wpAny (model prog w) A (richCompare op (.ref x) b) Q E s := by
  have one : wpAny (model prog w) A (tryCompare (.ref x) (cmpInfo op).2.1 b) (fun r s' => ∃ v, r = some v ∧ Q v s') E s := by
    unfold tryCompare
    refine wpAny_bind (ifBound_B X I hs hd (wpAny_mono h (fun v s' hv => ?_) fun _ _ e => e))
    cases v <;> first | exact hv.elim | exact wpAny_pure ⟨_, rfl, hv⟩
  unfold richCompare
  simp only [oneThing_ref]
  refine wpAny_holding (wpAny_bind (wpAny_cRoomFor hu ?_))
  refine wpAny_bind (I.type.here (wpAny_bind (hb.here ?_)))
  split
  · rename_i q
    have e : PySem.W.subIn K tb (.ref C) = some false := by
      rcases Bool.or_eq_true_iff.mp hn with e | e
      · rw [beq_iff_eq.mp e] at q; simp at q
      · exact beq_iff_eq.mp e
    refine wpAny_bind ((PySem.W.looks_subIn X e).here ?_)
    simp only [Bool.false_eq_true, if_false]
    refine wpAny_bind (wpAny_mono one (fun r s' z => ?_) fun _ _ e => e)
    obtain ⟨v, rfl, hq⟩ := z
    exact wpAny_pure hq
  · refine wpAny_bind (wpAny_pure ?_)
    simp only [Bool.false_eq_true, if_false]
    refine wpAny_bind (wpAny_mono one (fun r s' z => ?_) fun _ _ e => e)
    obtain ⟨v, rfl, hq⟩ := z
    exact wpAny_pure hq
def rNeO (K : PySem.W.Frag) (C : Addr) (sp : Sp) : R2 := fun x y H Q => ∃ p dx fs, x = .ref p ∧ H p = some (.ins C dx fs) ∧ Rhs K C H y ∧ sp [.ref p, y] H (fun v H' => ∃ b, v = .bl b ∧ Q (.bl !b) H') E0
theorem op_neOwn (c : EqC X.K C) (hs : PySem.W.findIn X.K (.ref C) "__eq__" = some (some (.ref f))) (hf : PySem.W.isFn X.K (.ref f) = true) (F : FnOk X.prog X.w X.K X.mg X.base CX0 k f fd ps sp) (hr : Room (k + 1) X.A) (hb : L2.Binds X.K fd ps []) : OpR X (compareOp .NotEq) (rNeO X.K C sp) := by
  intro pins s σ H x y v u Q I rx ry h
  obtain ⟨p, dx, fs, rfl, hp, hy, h⟩ := h
  cases (show v = Value.ref p from rx)
  obtain ⟨od, J⟩ := own_at I hp
  obtain ⟨tb, L1, L2⟩ := rhs_looks I ry hy
  refine cmp_B (op := .NotEq) (tb := tb) (id := "object.__ne__") hr.units0 I.kIn J L1 L2 c.ne bind_ne ?_
  refine ne_own (hr.in1).units0 I.kIn J c.hm hs hf ?_
  refine wpAny_mono (run_in1 (us := [.ref p, u]) (vs := [.ref p, y]) (E := fun _ => E0) F hr hb (fun _ _ _ _ _ _ z => z.elim) I (.cons rfl (.cons ry .nil)) h) (fun z s' hz => ?_) fun _ _ e => e
  obtain ⟨w', H', I', rw', b, eb, q'⟩ := hz
  subst eb
  cases (show z = Value.bool b from rw')
  exact ⟨b, rfl, .bl !b, H', I', rfl, q'⟩
theorem op_catAK {K : PySem.W.Frag} (hK : X.K = K) : OpR X (binaryOp .Add) (rCatA K) := hK ▸ op_catA
end
abbrev s_is_word : Stmt := top 5
theorem sc_is_word : FnScope ["thing", "letter"] ["thing"] (defScope s_is_word) := ⟨rfl, rfl, rfl, by decide +kernel, rfl, by decide +kernel, by decide +kernel⟩
abbrev s_BadWordU_initU : Stmt := inClass (top 2) 0
abbrev s_TooManyU_initU : Stmt := inClass (top 3) 0
abbrev s_RuleU_initU : Stmt := inClass (top 14) 0
theorem sc_RuleU_initU : FnScope ["self", "form"] ["self", "form"] (defScope s_RuleU_initU) := ⟨rfl, rfl, rfl, by decide +kernel, rfl, by decide +kernel, by decide +kernel⟩
abbrev s_Rule_has : Stmt := inClass (top 14) 1
theorem sc_Rule_has : FnScope ["record"] ["record"] (defScope s_Rule_has) := ⟨rfl, rfl, rfl, by decide +kernel, rfl, by decide +kernel, by decide +kernel⟩
abbrev s_Rule_together : Stmt := inClass (top 14) 2
theorem sc_Rule_together : FnScope ["records", "record", "different"] ["records"] (defScope s_Rule_together) := ⟨rfl, rfl, rfl, by decide +kernel, rfl, by decide +kernel, by decide +kernel⟩
abbrev s_Rule_always : Stmt := inClass (top 14) 3
theorem sc_Rule_always : FnScope [] [] (defScope s_Rule_always) := ⟨rfl, rfl, rfl, by decide +kernel, rfl, by decide +kernel, by decide +kernel⟩
abbrev s_Rule_records : Stmt := inClass (top 14) 4
theorem sc_Rule_records : FnScope ["self"] ["self"] (defScope s_Rule_records) := ⟨rfl, rfl, rfl, by decide +kernel, rfl, by decide +kernel, by decide +kernel⟩
abbrev s_RuleU_callU : Stmt := inClass (top 14) 5
theorem sc_RuleU_callU : FnScope ["self", "kept"] ["self", "kept"] (defScope s_RuleU_callU) := ⟨rfl, rfl, rfl, by decide +kernel, rfl, by decide +kernel, by decide +kernel⟩
abbrev s_RuleU_andU : Stmt := inClass (top 14) 6
theorem sc_RuleU_andU : FnScope ["self", "other"] ["self", "other"] (defScope s_RuleU_andU) := ⟨rfl, rfl, rfl, by decide +kernel, rfl, by decide +kernel, by decide +kernel⟩
abbrev s_RuleU_orU : Stmt := inClass (top 14) 7
theorem sc_RuleU_orU : FnScope ["self", "other"] ["self", "other"] (defScope s_RuleU_orU) := ⟨rfl, rfl, rfl, by decide +kernel, rfl, by decide +kernel, by decide +kernel⟩
abbrev s_RuleU_rshiftU : Stmt := inClass (top 14) 8
theorem sc_RuleU_rshiftU : FnScope ["self", "other"] ["self", "other"] (defScope s_RuleU_rshiftU) := ⟨rfl, rfl, rfl, by decide +kernel, rfl, by decide +kernel, by decide +kernel⟩
abbrev s_RuleU_invertU : Stmt := inClass (top 14) 9
theorem sc_RuleU_invertU : FnScope ["self"] ["self"] (defScope s_RuleU_invertU) := ⟨rfl, rfl, rfl, by decide +kernel, rfl, by decide +kernel, by decide +kernel⟩
abbrev s_RuleU_eqU : Stmt := inClass (top 14) 10
theorem sc_RuleU_eqU : FnScope ["self", "other"] ["self", "other"] (defScope s_RuleU_eqU) := ⟨rfl, rfl, rfl, by decide +kernel, rfl, by decide +kernel, by decide +kernel⟩
abbrev s_RuleU_strU : Stmt := inClass (top 14) 11
theorem sc_RuleU_strU : FnScope ["self"] ["self"] (defScope s_RuleU_strU) := ⟨rfl, rfl, rfl, by decide +kernel, rfl, by decide +kernel, by decide +kernel⟩
abbrev s_mentioned : Stmt := top 8
theorem sc_mentioned : FnScope ["form", "found", "part"] ["form"] (defScope s_mentioned) := ⟨rfl, rfl, rfl, by decide +kernel, rfl, by decide +kernel, by decide +kernel⟩
abbrev s_allows : Stmt := top 9
theorem sc_allows : FnScope ["form", "kept", "word", "there", "record"] ["form", "kept"] (defScope s_allows) := ⟨rfl, rfl, rfl, by decide +kernel, rfl, by decide +kernel, by decide +kernel⟩
abbrev s_spelled : Stmt := top 10
theorem sc_spelled : FnScope ["form", "word"] ["form"] (defScope s_spelled) := ⟨rfl, rfl, rfl, by decide +kernel, rfl, by decide +kernel, by decide +kernel⟩
abbrev s_subsets : Stmt := top 11
theorem sc_subsets : FnScope ["records", "found", "record", "one"] ["records"] (defScope s_subsets) := ⟨rfl, rfl, rfl, by decide +kernel, rfl, by decide +kernel, by decide +kernel⟩
abbrev s_combined : Stmt := top 12
theorem sc_combined : FnScope ["word", "one", "other"] ["word", "one", "other"] (defScope s_combined) := ⟨rfl, rfl, rfl, by decide +kernel, rfl, by decide +kernel, by decide +kernel⟩
abbrev s_allow_the_same : Stmt := top 13
theorem sc_allow_the_same : FnScope ["one", "other", "records", "kept"] ["one", "other"] (defScope s_allow_the_same) := ⟨rfl, rfl, rfl, by decide +kernel, rfl, by decide +kernel, by decide +kernel⟩
abbrev s_law_pool : Stmt := top 16
theorem sc_law_pool : FnScope ["_law_script", "_law_at", "_law_cell", "_law_size", "_law_seed"] ["_law_script", "_law_at"] (defScope s_law_pool) := ⟨rfl, rfl, rfl, by decide +kernel, rfl, by decide +kernel, by decide +kernel⟩
abbrev s_law_draw : Stmt := top 17
theorem sc_law_draw : FnScope ["_law_pool_here", "_law_many", "_law_digit", "_law_count", "_law_mixed"] ["_law_pool_here", "_law_many"] (defScope s_law_draw) := ⟨rfl, rfl, rfl, by decide +kernel, rfl, by decide +kernel, by decide +kernel⟩
abbrev s_law_word : Stmt := top 18
theorem sc_law_word : FnScope ["_law_pool_here", "_law_letters", "_law_k"] ["_law_pool_here"] (defScope s_law_word) := ⟨rfl, rfl, rfl, by decide +kernel, rfl, by decide +kernel, by decide +kernel⟩
abbrev s_law_built : Stmt := top 19
theorem sc_law_built : FnScope ["_law_pool_here", "_law_records", "_law_depth", "_law_sort", "_law_some", "_law_record", "_law_one", "_law_first", "_law_other", "_law_second", "_law_k"] ["_law_pool_here", "_law_records", "_law_depth"] (defScope s_law_built) := ⟨rfl, rfl, rfl, by decide +kernel, rfl, by decide +kernel, by decide +kernel⟩
abbrev s_law_allows : Stmt := top 20
theorem sc_law_allows : FnScope ["_law_node", "_law_kept", "_law_word_here", "_law_record"] ["_law_node", "_law_kept"] (defScope s_law_allows) := ⟨rfl, rfl, rfl, by decide +kernel, rfl, by decide +kernel, by decide +kernel⟩
abbrev s_law_subsets : Stmt := top 21
theorem sc_law_subsets : FnScope ["_law_records", "_law_found", "_law_record", "_law_some"] ["_law_records"] (defScope s_law_subsets) := ⟨rfl, rfl, rfl, by decide +kernel, rfl, by decide +kernel, by decide +kernel⟩
abbrev s_law : Stmt := top 22
theorem sc_law : FnScope ["_law_script", "_law_at", "_law_pool_here", "_law_records", "_law_one", "_law_first", "_law_other", "_law_second", "_law_due", "_law_some", "_law_same", "_law_words", "_law_far", "_law_third", "_law_k"] ["_law_script"] (defScope s_law) := ⟨rfl, rfl, rfl, by decide +kernel, rfl, by decide +kernel, by decide +kernel⟩
abbrev ef_BadWord : List (Str × Sum Nat Str) := [("word", .inl 0)]
theorem ec_BadWord {K : PySem.W.Frag} {C fI : Addr} {nm qn : Str} {N : Addr} {bs bm : List Value} {sn : List Str} {sub : List Value} {ab : Bool} {col : Option Bool} {dd : Option Addr} {k0 k1 k2 k3 k5 : Option Value}
    {oc : Value} {od : Option Addr} {doc pm : Value} {an : Option Addr} {cda cc : Addr} {ct : Value} {osl : Array (Option Value)} {ccl : Value} {cdd : Option Addr} {vs : Array Value} {ccs : Array (Option Value)} {tf : Tok} {cl : Value} {cld : Option Addr} {csl : Array (Option Value)}
    (h1 : K.lookup C = some (excClassObj nm qn C N bs bm true sn sub ab col dd k0 k1 k2 k3 k5 "ValueError.__new__")) (h2 : PySem.HandSPX.refsVE bm = true) (h3 : PySem.W.findIn K (.ref C) "__setattr__" = some (some (.builtin "object.__setattr__")))
    (h4 : PySem.W.findIn K (.ref C) "__getattribute__" = some (some (.builtin "BaseException.__getattribute__"))) (h5 : PySem.W.findIn K (.ref C) "__getattr__" = some none) (h6 : PySem.W.findIn K (.ref C) "__init__" = some (some (.ref fI)))
    (h7 : PySem.W.typeIn K (.ref fI) = some (.type "function")) (h8 : PySem.W.keepIn K (.ref C) = true) (h9 : PySem.W.subIn K (.ref C) (.type "BaseException") = some true) (h10 : PySem.W.subIn K (.ref C) (.type "ValueError") = some true)
    (h11 : PySem.W.typeIn K (.ref C) = some (.type "type")) (h12 : PySem.W.hasDictIn K C = true) (h13 : PySem.W.ks_superIn K C C "__init__" = some (some (.builtin "ValueError.__init__"))) (h14 : PySem.W.mroIn K C (.ref C) = some true) (h15 : PySem.W.exmOne K (.ref C) (.ref C) = some true)
    (h16 : PySem.W.nsIn K cStatics "thirdparty.any" = some none) (h17 : K.lookup fI = some ⟨oc, od, .func (PySem.W.ksFn "__init__" "BadWord.__init__" (defArgs s_BadWordU_initU) (defBody s_BadWordU_initU) (defScope s_BadWordU_initU) .none .none doc pm an (.ref cda) ct cc), osl⟩) (h18 : PySem.W.codeIn K (.ref cda) "BadWord.__init__" = true)
    (h19 : K.lookup cda = some ⟨ccl, cdd, .fields vs, ccs⟩) (h20 : vs[2]? = some (.str P.main.file tf)) (h21 : K.lookup cc = some ⟨cl, cld, .cell (some (.ref C)), csl⟩) (nf0 : PySem.W.findIn K (.ref C) "word" = some none) : ErrC P K C fI s_BadWordU_initU "BadWord.__init__" ["word"] ef_BadWord := by
  refine ⟨⟨nm, qn, N, bs, bm, sn, sub, ab, col, dd, k0, k1, k2, k3, k5, h1, h2⟩, h3, h4, h5, ?_, h6, h7, h8, h9, h10, h11, h12, h13, h14, h15, h16, ⟨oc, od, doc, pm, an, cda, cc, ct, osl, ccl, cdd, vs, ccs, tf, cl, cld, csl, h17, h18, h19, h20, h21⟩, ⟨_, rfl, rfl⟩, (fun _ _ _ _ _ _ us hl => match us, hl with | [_, _], _ => rfl),
    ⟨_, _, _, _, _, _, _, _, _, rfl, (.par (i := 0) rfl .nil), fun L cda cc => ⟨_, rfl⟩⟩, rfl, rfl, rfl, by decide +kernel, by decide +kernel, rfl, rfl, by decide +kernel, by decide +kernel⟩
  intro p hp
  rcases List.mem_cons.mp hp with rfl | hp
  · exact nf0
  · exact absurd hp (by simp)
abbrev ef_TooMany : List (Str × Sum Nat Str) := [("what", .inl 0)]
theorem ec_TooMany {K : PySem.W.Frag} {C fI : Addr} {nm qn : Str} {N : Addr} {bs bm : List Value} {sn : List Str} {sub : List Value} {ab : Bool} {col : Option Bool} {dd : Option Addr} {k0 k1 k2 k3 k5 : Option Value}
    {oc : Value} {od : Option Addr} {doc pm : Value} {an : Option Addr} {cda cc : Addr} {ct : Value} {osl : Array (Option Value)} {ccl : Value} {cdd : Option Addr} {vs : Array Value} {ccs : Array (Option Value)} {tf : Tok} {cl : Value} {cld : Option Addr} {csl : Array (Option Value)}
    (h1 : K.lookup C = some (excClassObj nm qn C N bs bm true sn sub ab col dd k0 k1 k2 k3 k5 "ValueError.__new__")) (h2 : PySem.HandSPX.refsVE bm = true) (h3 : PySem.W.findIn K (.ref C) "__setattr__" = some (some (.builtin "object.__setattr__")))
    (h4 : PySem.W.findIn K (.ref C) "__getattribute__" = some (some (.builtin "BaseException.__getattribute__"))) (h5 : PySem.W.findIn K (.ref C) "__getattr__" = some none) (h6 : PySem.W.findIn K (.ref C) "__init__" = some (some (.ref fI)))
    (h7 : PySem.W.typeIn K (.ref fI) = some (.type "function")) (h8 : PySem.W.keepIn K (.ref C) = true) (h9 : PySem.W.subIn K (.ref C) (.type "BaseException") = some true) (h10 : PySem.W.subIn K (.ref C) (.type "ValueError") = some true)
    (h11 : PySem.W.typeIn K (.ref C) = some (.type "type")) (h12 : PySem.W.hasDictIn K C = true) (h13 : PySem.W.ks_superIn K C C "__init__" = some (some (.builtin "ValueError.__init__"))) (h14 : PySem.W.mroIn K C (.ref C) = some true) (h15 : PySem.W.exmOne K (.ref C) (.ref C) = some true)
    (h16 : PySem.W.nsIn K cStatics "thirdparty.any" = some none) (h17 : K.lookup fI = some ⟨oc, od, .func (PySem.W.ksFn "__init__" "TooMany.__init__" (defArgs s_TooManyU_initU) (defBody s_TooManyU_initU) (defScope s_TooManyU_initU) .none .none doc pm an (.ref cda) ct cc), osl⟩) (h18 : PySem.W.codeIn K (.ref cda) "TooMany.__init__" = true)
    (h19 : K.lookup cda = some ⟨ccl, cdd, .fields vs, ccs⟩) (h20 : vs[2]? = some (.str P.main.file tf)) (h21 : K.lookup cc = some ⟨cl, cld, .cell (some (.ref C)), csl⟩) (nf0 : PySem.W.findIn K (.ref C) "what" = some none) : ErrC P K C fI s_TooManyU_initU "TooMany.__init__" ["what"] ef_TooMany := by
  refine ⟨⟨nm, qn, N, bs, bm, sn, sub, ab, col, dd, k0, k1, k2, k3, k5, h1, h2⟩, h3, h4, h5, ?_, h6, h7, h8, h9, h10, h11, h12, h13, h14, h15, h16, ⟨oc, od, doc, pm, an, cda, cc, ct, osl, ccl, cdd, vs, ccs, tf, cl, cld, csl, h17, h18, h19, h20, h21⟩, ⟨_, rfl, rfl⟩, (fun _ _ _ _ _ _ us hl => match us, hl with | [_, _], _ => rfl),
    ⟨_, _, _, _, _, _, _, _, _, rfl, (.par (i := 0) rfl .nil), fun L cda cc => ⟨_, rfl⟩⟩, rfl, rfl, rfl, by decide +kernel, by decide +kernel, rfl, rfl, by decide +kernel, by decide +kernel⟩
  intro p hp
  rcases List.mem_cons.mp hp with rfl | hp
  · exact nf0
  · exact absurd hp (by simp)
structure Ad where
  is_word : Addr
  BadWord : Addr
  BadWordU_initU : Addr
  TooMany : Addr
  TooManyU_initU : Addr
  Rule : Addr
  RuleU_initU : Addr
  Rule_has : Addr
  p_Rule_has : Addr
  Rule_together : Addr
  p_Rule_together : Addr
  Rule_always : Addr
  p_Rule_always : Addr
  Rule_records : Addr
  RuleU_callU : Addr
  RuleU_andU : Addr
  RuleU_orU : Addr
  RuleU_rshiftU : Addr
  RuleU_invertU : Addr
  RuleU_eqU : Addr
  RuleU_strU : Addr
  mentioned : Addr
  allows : Addr
  spelled : Addr
  subsets : Addr
  combined : Addr
  allow_the_same : Addr
  law_pool : Addr
  law_draw : Addr
  law_word : Addr
  law_built : Addr
  law_allows : Addr
  law_subsets : Addr
  law : Addr
structure Fd where
  is_word : FuncData
  RuleU_initU : FuncData
  Rule_has : FuncData
  Rule_together : FuncData
  Rule_always : FuncData
  Rule_records : FuncData
  RuleU_callU : FuncData
  RuleU_andU : FuncData
  RuleU_orU : FuncData
  RuleU_rshiftU : FuncData
  RuleU_invertU : FuncData
  RuleU_eqU : FuncData
  RuleU_strU : FuncData
  mentioned : FuncData
  allows : FuncData
  spelled : FuncData
  subsets : FuncData
  combined : FuncData
  allow_the_same : FuncData
  law_pool : FuncData
  law_draw : FuncData
  law_word : FuncData
  law_built : FuncData
  law_allows : FuncData
  law_subsets : FuncData
  law : FuncData
structure Txt (K : PySem.W.Frag) (mg : Str → Option Value) (a : Ad) (d : Fd) : Prop where
  is_word : Fun K "is_word" "is_word" s_is_word a.is_word d.is_word
  b_is_word : Binds K d.is_word ["thing"] []
  g_is_word : mg "is_word" = some (.ref a.is_word)
  g_BadWord : mg "BadWord" = some (.ref a.BadWord)
  e_BadWord : ErrC P K a.BadWord a.BadWordU_initU s_BadWordU_initU "BadWord.__init__" ["word"] ef_BadWord
  g_TooMany : mg "TooMany" = some (.ref a.TooMany)
  e_TooMany : ErrC P K a.TooMany a.TooManyU_initU s_TooManyU_initU "TooMany.__init__" ["what"] ef_TooMany
  v_MOST_RECORDS : ∃ u, mg "MOST_RECORDS" = some u ∧ RelV (.int 6) u
  g_Rule : mg "Rule" = some (.ref a.Rule)
  r_Rule : ClX.CRead K a.Rule (.type "type")
  k_Rule : Cls K a.Rule
  na_Rule_form : NoAttr K a.Rule "form"
  RuleU_initU : Fun K "__init__" "Rule.__init__" s_RuleU_initU a.RuleU_initU d.RuleU_initU
  b_RuleU_initU : Binds K d.RuleU_initU ["self", "form"] []
  mk_Rule : Mk K a.Rule a.RuleU_initU
  Rule_has : Fun K "has" "Rule.has" s_Rule_has a.Rule_has d.Rule_has
  b_Rule_has : Binds K d.Rule_has ["record"] []
  s_Rule_has : SMet K a.Rule (.type "type") "has" a.p_Rule_has a.Rule_has
  Rule_together : Fun K "together" "Rule.together" s_Rule_together a.Rule_together d.Rule_together
  s_Rule_together : SMet K a.Rule (.type "type") "together" a.p_Rule_together a.Rule_together
  Rule_always : Fun K "always" "Rule.always" s_Rule_always a.Rule_always d.Rule_always
  b_Rule_always : Binds K d.Rule_always [] []
  s_Rule_always : SMet K a.Rule (.type "type") "always" a.p_Rule_always a.Rule_always
  Rule_records : Fun K "records" "Rule.records" s_Rule_records a.Rule_records d.Rule_records
  b_Rule_records : Binds K d.Rule_records ["self"] []
  m_Rule_records : Meth K a.Rule "records" a.Rule_records
  RuleU_callU : Fun K "__call__" "Rule.__call__" s_RuleU_callU a.RuleU_callU d.RuleU_callU
  b_RuleU_callU : Binds K d.RuleU_callU ["self", "kept"] []
  m_RuleU_callU : Meth K a.Rule "__call__" a.RuleU_callU
  RuleU_andU : Fun K "__and__" "Rule.__and__" s_RuleU_andU a.RuleU_andU d.RuleU_andU
  b_RuleU_andU : Binds K d.RuleU_andU ["self", "other"] []
  m_RuleU_andU : Meth K a.Rule "__and__" a.RuleU_andU
  RuleU_orU : Fun K "__or__" "Rule.__or__" s_RuleU_orU a.RuleU_orU d.RuleU_orU
  b_RuleU_orU : Binds K d.RuleU_orU ["self", "other"] []
  m_RuleU_orU : Meth K a.Rule "__or__" a.RuleU_orU
  RuleU_rshiftU : Fun K "__rshift__" "Rule.__rshift__" s_RuleU_rshiftU a.RuleU_rshiftU d.RuleU_rshiftU
  b_RuleU_rshiftU : Binds K d.RuleU_rshiftU ["self", "other"] []
  m_RuleU_rshiftU : Meth K a.Rule "__rshift__" a.RuleU_rshiftU
  RuleU_invertU : Fun K "__invert__" "Rule.__invert__" s_RuleU_invertU a.RuleU_invertU d.RuleU_invertU
  b_RuleU_invertU : Binds K d.RuleU_invertU ["self"] []
  m_RuleU_invertU : Meth K a.Rule "__invert__" a.RuleU_invertU
  RuleU_eqU : Fun K "__eq__" "Rule.__eq__" s_RuleU_eqU a.RuleU_eqU d.RuleU_eqU
  b_RuleU_eqU : Binds K d.RuleU_eqU ["self", "other"] []
  m_RuleU_eqU : Meth K a.Rule "__eq__" a.RuleU_eqU
  RuleU_strU : Fun K "__str__" "Rule.__str__" s_RuleU_strU a.RuleU_strU d.RuleU_strU
  b_RuleU_strU : Binds K d.RuleU_strU ["self"] []
  m_RuleU_strU : Meth K a.Rule "__str__" a.RuleU_strU
  co_Rule : StX.CallO K a.Rule a.RuleU_callU
  sf_Rule : PySem.W.selfFirst K a.Rule = true
  eq_Rule : EqC K a.Rule
  mentioned : Fun K "mentioned" "mentioned" s_mentioned a.mentioned d.mentioned
  b_mentioned : Binds K d.mentioned ["form"] []
  g_mentioned : mg "mentioned" = some (.ref a.mentioned)
  allows : Fun K "allows" "allows" s_allows a.allows d.allows
  b_allows : Binds K d.allows ["form", "kept"] []
  g_allows : mg "allows" = some (.ref a.allows)
  spelled : Fun K "spelled" "spelled" s_spelled a.spelled d.spelled
  b_spelled : Binds K d.spelled ["form"] []
  g_spelled : mg "spelled" = some (.ref a.spelled)
  subsets : Fun K "subsets" "subsets" s_subsets a.subsets d.subsets
  b_subsets : Binds K d.subsets ["records"] []
  g_subsets : mg "subsets" = some (.ref a.subsets)
  combined : Fun K "combined" "combined" s_combined a.combined d.combined
  b_combined : Binds K d.combined ["word", "one", "other"] []
  g_combined : mg "combined" = some (.ref a.combined)
  allow_the_same : Fun K "allow_the_same" "allow_the_same" s_allow_the_same a.allow_the_same d.allow_the_same
  b_allow_the_same : Binds K d.allow_the_same ["one", "other"] []
  g_allow_the_same : mg "allow_the_same" = some (.ref a.allow_the_same)
  law_pool : Fun K "_law_pool" "_law_pool" s_law_pool a.law_pool d.law_pool
  b_law_pool : Binds K d.law_pool ["_law_script", "_law_at"] []
  g_law_pool : mg "_law_pool" = some (.ref a.law_pool)
  law_draw : Fun K "_law_draw" "_law_draw" s_law_draw a.law_draw d.law_draw
  b_law_draw : Binds K d.law_draw ["_law_pool_here", "_law_many"] []
  g_law_draw : mg "_law_draw" = some (.ref a.law_draw)
  law_word : Fun K "_law_word" "_law_word" s_law_word a.law_word d.law_word
  b_law_word : Binds K d.law_word ["_law_pool_here"] []
  g_law_word : mg "_law_word" = some (.ref a.law_word)
  law_built : Fun K "_law_built" "_law_built" s_law_built a.law_built d.law_built
  b_law_built : Binds K d.law_built ["_law_pool_here", "_law_records", "_law_depth"] []
  g_law_built : mg "_law_built" = some (.ref a.law_built)
  law_allows : Fun K "_law_allows" "_law_allows" s_law_allows a.law_allows d.law_allows
  b_law_allows : Binds K d.law_allows ["_law_node", "_law_kept"] []
  g_law_allows : mg "_law_allows" = some (.ref a.law_allows)
  law_subsets : Fun K "_law_subsets" "_law_subsets" s_law_subsets a.law_subsets d.law_subsets
  b_law_subsets : Binds K d.law_subsets ["_law_records"] []
  g_law_subsets : mg "_law_subsets" = some (.ref a.law_subsets)
  law : Fun K "law" "law" s_law a.law d.law
  b_law : Binds K d.law ["_law_script"] []
  g_law : mg "law" = some (.ref a.law)
  n_len : mg "len" = none
  n_isinstance : mg "isinstance" = none
  n_str : mg "str" = none
  n_super : mg "super" = none
  n_sorted : mg "sorted" = none
  n_set : mg "set" = none
  n_all : mg "all" = none
  n_abs : mg "abs" = none
  n_int : mg "int" = none
  n_range : mg "range" = none
  n_max : mg "max" = none
  n_min : mg "min" = none

section
variable {w : World} {K : PySem.W.Frag} {mg : Str → Option Value} {base : Heap} {a : Ad} {d : Fd}
theorem ok_law_draw (T : Txt K mg a d) : FnOk P w K mg base CX0 1 a.law_draw d.law_draw ["_law_pool_here", "_law_many"] spDraw := by
  refine T.law_draw.ok sc_law_draw (fun vs H Q E h => ?_) (fun cdv A outer s H vs Q E hr h => ?_)
  · obtain ⟨p, m, c, o, rfl, _⟩ := h
    rfl
  · obtain ⟨p, m, c, o, rfl, hp, ⟨x, y, n, rfl, hx, hy, hy2, hn, hn2⟩, hm, hm2, hc, k⟩ := h
    have hw : ∀ i : Int, CDivW i m := fun i => wide_div (b := 200) hm (by omega) (by decide) (by decide)
    have e1 : (b2 : Int) → 0 ≤ b2 → b2 < 2 ^ 62 → CPow (b2 + 48611 * (n + 1)) 3 := fun b2 h1 h2 => ⟨by decide, by decide, by omega⟩
    have e2 : (b2 : Int) → 0 ≤ b2 → b2 < 2 ^ 62 → CPow (b2 + 104729 * (n + 1)) 3 := fun b2 h1 h2 => ⟨by decide, by decide, by omega⟩
    have e3 : ∀ i j : Int, -1000000 < i → i < 1000000 → CMul i j := fun i j h1 h2 => .inl ⟨by omega, by omega⟩
    refine ⟨_, (pss_cons (ps_if (pt_cmpR op_gt (pe_ix ix_list (pv 0) pe_int (fun _ _ => rfl)) pe_int (nomark _)) (pss_cons (ps_set (i := 2) sc_law_draw.nd rfl (Or.inl rfl) (pe_op op_mod (pe_callTy call_int1 (by rfl) T.n_int (by decide +kernel) (pa_cons (pe_ix ix_list (pv 0) pe_int (fun _ _ => rfl)) pa_nil)) (pv 1)))
  (pss_cons (ps_asg (pe_op op_fdivW (pe_ix ix_list (pv 0) pe_int (fun _ _ => rfl)) (pv 1)) (pg_sub (pv 0) pe_int set_list))
  (pss_one (ps_ret (pv 2))))) pss_nil)
  (pss_cons (ps_set (i := 3) sc_law_draw.nd rfl (Or.inl rfl) (pe_op op_add (pe_ix ix_list (pv 0) pe_int (fun _ _ => rfl)) pe_int))
  (pss_cons (ps_asg (pv 3) (pg_sub (pv 0) pe_int set_list))
  (pss_cons (ps_set (i := 4) sc_law_draw.nd rfl (Or.inl rfl) (pe_op op_mod (pe_callTy call_int1 (by rfl) T.n_int (by decide +kernel) (pa_cons (pe_op op_add (pe_op op_pow (pe_op op_add (pe_ix ix_list (pv 0) pe_int (fun _ _ => rfl)) (pe_op op_mul pe_int (pv 3))) pe_int) (pe_op op_mul pe_int (pv 3))) pa_nil)) pe_int))
  (pss_cons (ps_set (i := 4) sc_law_draw.nd rfl (Or.inl rfl) (pe_op op_mod (pe_callTy call_int1 (by rfl) T.n_int (by decide +kernel) (pa_cons (pe_op op_pow (pe_op op_add (pv 4) (pe_op op_mul pe_int (pv 3))) pe_int) pa_nil)) pe_int))
  (pss_one (ps_ret (pe_op op_mod (pe_callTy call_int1 (by rfl) T.n_int (by decide +kernel) (pa_cons (pe_op op_fdivW (pv 4) pe_int) pa_nil)) (pv 1))))))))), ?_⟩
    dsimp only [cxOf]
    walk_at "rd"
    refine ite2 (fun c0 => ?_) (fun c0 => ?_)
    · have c1 : 0 < x := of_decide_eq_true c0
      walk_at "rd"
      refine And.intro (hw _) ?_
      walk_at "rd"
      refine k _ _ (Int.emod_nonneg _ (by omega)) (Int.emod_lt_of_pos _ hm) ⟨_, _, _, rfl, Int.ediv_nonneg (by omega) (by omega), hy, hy2, hn, by omega⟩
    · walk_at "rd"
      refine And.intro (e1 _ hy hy2) ?_
      walk_at "rd"
      refine And.intro (e2 _ (Int.emod_nonneg _ (by decide)) (Int.lt_trans (Int.emod_lt_of_pos _ (by decide)) (by decide))) ?_
      walk_at "rd"
      refine k _ _ (Int.emod_nonneg _ (by omega)) (Int.emod_lt_of_pos _ hm) ⟨_, _, _, rfl, hx, hy, hy2, by omega, by omega⟩
theorem ok_law_pool (T : Txt K mg a d) : FnOk P w K mg base CX0 1 a.law_pool d.law_pool ["_law_script", "_law_at"] (spPool K) := by
  refine T.law_pool.ok sc_law_pool (fun vs H Q E h => ?_) (fun cdv A outer s H vs Q E hr h => ?_)
  · obtain ⟨p, ns, i, rfl, _⟩ := h
    rfl
  · obtain ⟨p, ns, i, rfl, hS, hi, k⟩ := h
    have e3 : ∀ i j : Int, -1000000 < i → i < 1000000 → CMul i j := fun i j h1 h2 => .inl ⟨by omega, by omega⟩
    have e4 : ∀ i j : Int, -1000000 < j → j < 1000000 → CMul i j := fun i j h1 h2 => .inr ⟨by omega, by omega⟩
    refine ⟨_, (pss_cons (ps_set (i := 2) sc_law_pool.nd rfl (Or.inl rfl) (pe_ifExp (pt_cmpR op_lt (pv 1) (pe_callB call_len_seq (by rfl) T.n_len PySem.boot_len (pa_cons (pv 0) pa_nil)) (nomark _)) (pe_ix ix_list (pv 0) (pv 1) (fun _ _ => rfl)) pe_int))
  (pss_cons (ps_set (i := 3) sc_law_pool.nd rfl (Or.inl rfl) (pe_callB call_abs (by rfl) T.n_abs (by decide +kernel) (pa_cons (pv 2) pa_nil)))
  (pss_cons (ps_set (i := 4) sc_law_pool.nd rfl (Or.inl rfl) (pe_op op_mod (pe_callTy call_int1 (by rfl) T.n_int (by decide +kernel) (pa_cons (pe_op op_add (pe_op op_add (pe_op op_mul (pv 3) pe_int) (pe_op op_mul pe_int (pv 1))) (pe_callTy call_int1 (by rfl) T.n_int (by decide +kernel) (pa_cons (pe_cmpR op_lt (pv 2) pe_int (nomark _)) pa_nil))) pa_nil)) pe_int))
  (pss_one (ps_ret (pe_lst (pa_cons (pe_ifExp (pt_cmpR op_ge (pv 3) (pe_op op_pow pe_int pe_int) (nomark _)) (pv 3) pe_int) (pa_cons (pe_op op_add (pv 4) pe_int) (pa_cons pe_int pa_nil))))))))), ?_⟩
    dsimp only [cxOf]
    walk_at "rd"
    refine ite2 (fun c0 => ?_) (fun c0 => ?_)
    · have c1 : (i : Int) < ((ns.map V.int).length : Int) := of_decide_eq_true c0
      rw [List.length_map] at c1
      have c2 : i < ns.length := by omega
      have hz : (ns.map V.int)[i]? = some (.int ns[i]) := by
        rw [List.getElem?_map, List.getElem?_eq_getElem c2]; rfl
      walk_at "rd"
      refine And.intro (atI_nat hz) ?_
      walk_at "rd"
      refine ite2 (fun c2 => ?_) (fun c2 => ?_)
      all_goals
        walk_at "rd"
        intro q hq
        exact k q _ hq ⟨_, _, _, rfl, (by first | (split <;> omega) | decide), Int.add_nonneg (Int.emod_nonneg _ (by decide)) (by decide), Int.lt_trans (Int.add_lt_add_right (Int.emod_lt_of_pos _ (by decide)) _) (by decide), Int.le_refl 0, Int.le_refl 0⟩
    · walk_at "rd"
      intro q hq
      exact k q _ hq ⟨_, _, _, rfl, Int.le_refl 0, Int.add_nonneg (Int.emod_nonneg _ (by decide)) (by decide), Int.lt_trans (Int.add_lt_add_right (Int.emod_lt_of_pos _ (by decide)) _) (by decide), Int.le_refl 0, Int.le_refl 0⟩
theorem ok_law_word (T : Txt K mg a d) : FnOk P w K mg base CX0 2 a.law_word d.law_word ["_law_pool_here"] spWord := by
  have G_law_draw : FnOk P w K mg base CX0 1 a.law_draw d.law_draw ["_law_pool_here", "_law_many"] spDraw := ok_law_draw T
  refine T.law_word.ok sc_law_word (fun vs H Q E h => ?_) (fun cdv A outer s H vs Q E hr h => ?_)
  · obtain ⟨p, c, o, rfl, _⟩ := h
    rfl
  · obtain ⟨p, c, o, rfl, hp, hc, hb, k⟩ := h
    refine ⟨_, (pss_cons (ps_set (i := 1) sc_law_word.nd rfl (Or.inr rfl) pe_str)
  (pss_one (ps_ret (pe_join pe_str (pe_lc (own := [("_law_k", 2)]) (tt := tYes) rfl sc_law_word.nd (pi_range1 (by rfl) T.n_range (pa_cons (pe_op op_add pe_int (pe_call G_law_draw (hr.mono (by decide)) (by rfl) T.g_law_draw T.law_draw.kp T.b_law_draw .nil pass0 (pa_cons (pv 0) (pa_cons pe_int pa_nil)))) pa_nil)) (blkOk_by (own := [("_law_k", 2)]) (N := ["_law_pool_here", "_law_letters", "_law_k"]) (sc := defScope s_law_word) (by decide +kernel)) (fun _ _ _ _ _ => (pg_name (i := 2) sc_law_word.nd rfl (Or.inl rfl))) (fun _ _ _ _ _ => pts_nil) (fun _ _ _ _ _ => (pe_ix ix_str (pv 1) (pe_call G_law_draw (hr.mono (by decide)) (by rfl) T.g_law_draw T.law_draw.kp T.b_law_draw .nil pass0 (pa_cons (pv 0) (pa_cons pe_int pa_nil))) (fun _ _ => rfl)))))))), ?_⟩
    dsimp only [cxOf]
    walk_at "rd"
    intro r o1 r0 r1 h1
    walk_at "rd"
    intro D hD
    refine lc_letters (c := c + 1) hD upd_same h1 (by omega) (by omega) rfl rfl (by decide) (by decide) fun H' cs o2 e1 e2 e3 e4 e5 e6 => ?_
    refine ⟨_, _, cs.map chr1, rfl, rfl, Or.inl (SqL.of e6), ?_, ?_⟩
    · rw [sum_chr, e1]
      have : (Str.ofString "").length = 0 := by decide +kernel
      rw [this]; omega
    · rw [join_chr]
      refine k _ o2 _ ⟨?_, ?_, e2⟩ (e5.mono (by omega)) e4 (Kp.refl.set1.trans e3)
      · show 1 ≤ cs.length
        omega
      · show cs.length ≤ 8
        omega
theorem ok_is_word (T : Txt K mg a d) : FnOk P w K mg base CX0 1 a.is_word d.is_word ["thing"] spIsWord := by
  refine T.is_word.ok sc_is_word (fun vs H Q E h => ?_) (fun cdv A outer s H vs Q E hr h => ?_)
  · obtain ⟨v, rfl, _⟩ := h
    rfl
  · obtain ⟨v, rfl, hv, k⟩ := h
    refine ⟨_, (pss_cons (ps_if (PW.pt (pw_or (pt_not (pt_val (pe_callB call_isi (by rfl) T.n_isinstance (by decide +kernel) (pa_cons (pv 0) (pa_cons (pe_bltn (v := .ty "str") (u := .type "str") (by rfl) T.n_str (by decide +kernel) rfl) pa_nil))))) (pw_or1 (pt_not (pt_chain op_le op_le pe_int (pe_callB call_len_str (by rfl) T.n_len PySem.boot_len (pa_cons (pv 0) pa_nil)) pe_int))))) (pss_one (ps_ret pe_bl)) pss_nil)
  (pss_cons (ps_for PassesOwn.never rfl (pi_str (pv 0)) (pg_name (i := 1) sc_is_word.nd rfl (Or.inl rfl))
  (pss_one (ps_if (pt_not (pt_chain op_le_str op_le_str pe_str (pv 1) pe_str)) (pss_one (ps_ret pe_bl)) pss_nil)))
  (pss_one (ps_ret pe_bl)))), ?_⟩
    dsimp only [cxOf]
    obtain ⟨ty, h1, h2⟩ := hv.isi (K := K)
    refine ⟨_, rfl, _, _, _, _, _, rfl, ClsV.ty _, h1, h2, _, rfl, ?_⟩
    cases hv with
    | str z hz ha0 =>
      refine iteF ?_
      have hs : z.length ≤ sizeLine := by rw [sizeLine_eq]; omega
      refine ⟨_, rfl, z, rfl, hs, ?_⟩
      walk_at "rd"
      by_cases c1 : (1 : Int) ≤ (z.length : Int)
      · rw [decide_eq_true c1]
        refine iteT ?_
        walk_at "rd"
        by_cases c2 : (z.length : Int) ≤ 8
        · rw [decide_eq_true c2]
          refine iteF ?_
          walk_at "rd"
          refine for_it (walk_str (z := z)) (fun i σ H' => H' = H ∧ ∃ v, σ = [some (.str z), v] ∧ (z.cps.toList.take i).all okC = true) ?_ (fun _ _ _ _ _ => trivial) ?_ ?_
          · exact ⟨rfl, none, rfl, rfl⟩
          · rintro i x σ H1 H2 hi ⟨rfl, v, rfl, ha⟩ ⟨rfl, c, hc, rfl⟩
            have hc' : z.cps.toList[i]? = some c := by rw [Array.getElem?_toList]; exact hc
            walk_at "rd"
            rw [le_a]
            by_cases d1 : 97 ≤ c
            · rw [decide_eq_true d1]
              refine iteT ?_
              walk_at "rd"
              rw [le_z]
              by_cases d2 : c ≤ 122
              · rw [decide_eq_true d2]
                refine iteF ?_
                refine ⟨rfl, _, rfl, all_take hc' ha ?_⟩
                unfold okC; rw [decide_eq_true d1, decide_eq_true d2]; rfl
              · rw [decide_eq_false d2]
                refine iteT ?_
                have : wordB (.str z) = false := by
                  show wordS z = false
                  unfold wordS; rw [all_no hc' (show okC c = false by unfold okC; rw [decide_eq_false d2, Bool.and_false]), Bool.and_false]
                rw [this] at k
                exact k
            · rw [decide_eq_false d1]
              refine iteF ?_
              walk_at "rd"
              refine iteT ?_
              have : wordB (.str z) = false := by
                show wordS z = false
                unfold wordS; rw [all_no hc' (show okC c = false by unfold okC; rw [decide_eq_false d1, Bool.false_and]), Bool.and_false]
              rw [this] at k
              exact k
          · rintro σ H1 ⟨rfl, v, rfl, ha⟩
            have e : (z.cps.toList.take z.cps.size) = z.cps.toList := List.take_of_length_le (by simp)
            rw [e] at ha
            have : wordB (.str z) = true := by
              show wordS z = true
              unfold wordS; rw [ha, decide_eq_true (show 1 ≤ z.length by omega), decide_eq_true (show z.length ≤ 8 by omega)]; rfl
            rw [this] at k
            exact k
        · rw [decide_eq_false c2]
          refine iteT ?_
          have : wordB (.str z) = false := by
            show wordS z = false
            unfold wordS; rw [decide_eq_false (show ¬ z.length ≤ 8 by omega), Bool.and_false, Bool.false_and]
          rw [this] at k
          exact k
      · rw [decide_eq_false c1]
        refine iteF ?_
        walk_at "rd"
        refine iteT ?_
        have : wordB (.str z) = false := by
          show wordS z = false
          unfold wordS; rw [decide_eq_false (show ¬ 1 ≤ z.length by omega), Bool.false_and, Bool.false_and]
        rw [this] at k
        exact k
    | int i => exact iteT (iteT k)
    | bl b => exact iteT (iteT k)
    | non => exact iteT (iteT k)
    | lst h => exact iteT (iteT k)
    | tup h => exact iteT (iteT k)
/-! ### rules: their forms -/
inductive Fm
  | has (z : Str)
  | tog (zs : List Str)
  | alw
  | nt (f : Fm)
  | bin (w : Str) (f g : Fm)
def Fm.dep : Fm → Nat
  | .nt f => f.dep + 1
  | .bin _ f g => max f.dep g.dep + 1
  | _ => 0
def FmAt (H : Hp) : Fm → V → Prop
  | .has z, v => ∃ p, v = .ref p ∧ H p = some (.tup [.str "has", .str z])
  | .tog zs, v => ∃ p, v = .ref p ∧ H p = some (.tup (.str "together" :: zs.map V.str))
  | .alw, v => ∃ p, v = .ref p ∧ H p = some (.tup [.str "always"])
  | .nt f, v => ∃ p x, v = .ref p ∧ H p = some (.tup [.str "not", x]) ∧ FmAt H f x
  | .bin w f g, v => ∃ p x y, v = .ref p ∧ H p = some (.tup [.str w, x, y]) ∧ FmAt H f x ∧ FmAt H g y
/-- tuples and instances stay -/
def Im (H H' : Hp) : Prop := (∀ p xs, H p = some (.tup xs) → H' p = some (.tup xs)) ∧ ∀ p C dx fs, H p = some (.ins C dx fs) → H' p = some (.ins C dx fs)
theorem Im.refl {H : Hp} : Im H H := ⟨fun _ _ h => h, fun _ _ _ _ h => h⟩
theorem Im.trans {H H1 H2 : Hp} (a : Im H H1) (b : Im H1 H2) : Im H H2 := ⟨fun p xs h => b.1 p xs (a.1 p xs h), fun p C dx fs h => b.2 p C dx fs (a.2 p C dx fs h)⟩
theorem _root_.L2.Same.im {H H' : Hp} (s : Same H H') : Im H H' := ⟨fun p xs h => s _ _ h, fun p C dx fs h => s _ _ h⟩
/-- what may change holds no tuple and no instance -/
theorem Kp.im {S : Addr → Prop} {H H' : Hp} (k : Kp S H H') (n : ∀ b, S b → ∃ xs, H b = some (.lst xs)) : Im H H' := by
  refine ⟨fun p xs h => k _ _ h fun z => ?_, fun p C dx fs h => k _ _ h fun z => ?_⟩
  · obtain ⟨ys, e⟩ := n p z
    rw [e] at h; cases h
  · obtain ⟨ys, e⟩ := n p z
    rw [e] at h; cases h
theorem FmAt.im {H H' : Hp} (s : Im H H') : ∀ {f : Fm} {v : V}, FmAt H f v → FmAt H' f v
  | .has _, _, ⟨p, e, h⟩ => ⟨p, e, s.1 _ _ h⟩
  | .tog _, _, ⟨p, e, h⟩ => ⟨p, e, s.1 _ _ h⟩
  | .alw, _, ⟨p, e, h⟩ => ⟨p, e, s.1 _ _ h⟩
  | .nt _, _, ⟨p, x, e, h, h1⟩ => ⟨p, x, e, s.1 _ _ h, h1.im s⟩
  | .bin _ _ _, _, ⟨p, x, y, e, h, h1, h2⟩ => ⟨p, x, y, e, s.1 _ _ h, h1.im s, h2.im s⟩
def Fm.recs : Fm → List Str
  | .has z => sortT (setT [z])
  | .tog zs => sortT (setT zs)
  | .alw => sortT (setT [])
  | .nt f => sortT (setT f.recs)
  | .bin _ f g => sortT (setT (f.recs ++ g.recs))
abbrev opsS : List Str := ["and", "or", "needs"]
def Fm.Ok : Fm → Prop
  | .has z => IsWord z
  | .tog zs => (∀ z ∈ zs, IsWord z) ∧ zs.length ≤ 6
  | .alw => True
  | .nt f => f.Ok
  | .bin w f g => w ∈ opsS ∧ f.Ok ∧ g.Ok ∧ (Fm.bin w f g).recs.length ≤ 6
def Fm.sat (ks : List Str) : Fm → Bool
  | .has z => decide (z ∈ ks)
  | .tog zs => inV (.int ((zs.filter fun z => decide (z ∈ ks)).length : Int)) [.int 0, .int ((zs.length : Int) + 1 - 1)]
  | .alw => true
  | .nt f => !f.sat ks
  | .bin w f g => if w = "and" then (f.sat ks && g.sat ks) else if w = "or" then (f.sat ks || g.sat ks) else (!f.sat ks || g.sat ks)
theorem setT_le {xs : List Str} : (setT xs).length ≤ xs.length := setT_len
theorem Fm.Ok.len : ∀ {f : Fm}, f.Ok → f.recs.length ≤ 6
  | .has z, _ => by
    show (sortT (setT [z])).length ≤ 6
    rw [sortT_len]
    have := setT_len (xs := [z])
    rw [List.length_singleton] at this
    omega
  | .tog zs, h => by
    show (sortT (setT zs)).length ≤ 6
    rw [sortT_len]
    have := setT_len (xs := zs)
    have := h.2
    omega
  | .alw, _ => by
    show (sortT (setT [])).length ≤ 6
    rw [sortT_len]
    have := setT_len (xs := [])
    rw [List.length_nil] at this
    omega
  | .nt f, h => by
    show (sortT (setT f.recs)).length ≤ 6
    rw [sortT_len]
    have := setT_len (xs := f.recs)
    have := Fm.Ok.len (f := f) h
    omega
  | .bin w f g, h => h.2.2.2
theorem Fm.Ok.words : ∀ {f : Fm}, f.Ok → ∀ z ∈ f.recs, IsWord z
  | .has y, h, z, hz => by
    have hz : z ∈ sortT (setT [y]) := hz
    rw [sortT_mem, setT_mem] at hz
    exact List.mem_singleton.mp hz ▸ h
  | .tog zs, h, z, hz => by
    have hz : z ∈ sortT (setT zs) := hz
    rw [sortT_mem, setT_mem] at hz
    exact h.1 z hz
  | .alw, _, z, hz => by
    have hz : z ∈ sortT (setT []) := hz
    rw [sortT_mem, setT_mem] at hz
    cases hz
  | .nt f, h, z, hz => by
    have hz : z ∈ sortT (setT f.recs) := hz
    rw [sortT_mem, setT_mem] at hz
    exact Fm.Ok.words (f := f) h z hz
  | .bin w f g, h, z, hz => by
    have hz : z ∈ sortT (setT (f.recs ++ g.recs)) := hz
    rw [sortT_mem, setT_mem] at hz
    rcases List.mem_append.mp hz with hz | hz
    · exact Fm.Ok.words (f := f) h.2.1 z hz
    · exact Fm.Ok.words (f := g) h.2.2.1 z hz
/-- a rule object -/
def RuAt (a : Ad) (H : Hp) (f : Fm) (v : V) : Prop := ∃ p dx x, v = .ref p ∧ H p = some (.ins a.Rule dx [("form", x)]) ∧ FmAt H f x ∧ f.Ok
theorem RuAt.im {a : Ad} {H H' : Hp} {f : Fm} {v : V} (h : RuAt a H f v) (s : Im H H') : RuAt a H' f v := by
  obtain ⟨p, dx, x, e, h1, h2, h3⟩ := h
  exact ⟨p, dx, x, e, s.2 _ _ _ _ h1, h2.im s, h3⟩
/-! ### allows -/
def spAllows (K : PySem.W.Frag) (n : Nat) : Sp := fun vs H Q _ => ∃ f v q ks, vs = [v, .ref q] ∧ Fm.dep f < n ∧ f.Ok ∧ FmAt H f v ∧ (SqL K H q (ks.map V.str) ∨ SqT K H q (ks.map V.str)) ∧ ∀ H', Same H H' → Q (.bl (f.sat ks)) H'
theorem sq_same {K : PySem.W.Frag} {H H' : Hp} {q : Addr} {xs : List V} (h : SqL K H q xs ∨ SqT K H q xs) (s : Same H H') : SqL K H' q xs ∨ SqT K H' q xs := h.imp (fun z => s.seq z) (fun z => by
  rcases z with (z | ⟨o, z⟩) | z
  · exact .inl (.inl (s _ _ z))
  · exact .inl (.inr ⟨o, s _ _ z⟩)
  · exact .inr z)
theorem inV_strs {z : Str} {l : List Str} : inV (.str z) (l.map V.str) = decide (z ∈ l) := by
  unfold inV
  rw [List.any_map]
  induction l with
  | nil => rfl
  | cons n r ih =>
    rw [List.any_cons, ih]
    show ((n == z) || decide (z ∈ r)) = _
    by_cases h : n = z
    · subst h
      simp
    · have h' : ¬ z = n := fun q => h q.symm
      simp [h, h']
theorem flat_strs {l : List Str} : (l.map V.str).all flatV = true := by
  rw [List.all_map]
  exact List.all_eq_true.mpr fun _ _ => rfl
theorem cut1 {x : V} {xs : List V} : cutV (x :: xs) (some 1) none = xs := by
  show List.take (HT.sIx (x :: xs).length (x :: xs).length none - HT.sIx (x :: xs).length 0 (some 1)) (List.drop (HT.sIx (x :: xs).length 0 (some 1)) (x :: xs)) = xs
  have e1 : HT.sIx (x :: xs).length 0 (some 1) = 1 := by
    unfold HT.sIx
    simp
  have e2 : HT.sIx (x :: xs).length (x :: xs).length none = xs.length + 1 := by
    unfold HT.sIx
    simp
  rw [e1, e2]
  simp
theorem fn_none {P : Program} {w : World} {K : PySem.W.Frag} {mg : Str → Option Value} {base : Heap} {f : Addr} {fd : FuncData} {ps : List Str} {sp : Sp} {k : Nat} (h : ∀ vs H Q E, ¬ sp vs H Q E) : FnOk P w K mg base CX0 k f fd ps sp :=
  ⟨fun vs H Q E z => (h vs H Q E z).elim, fun A outer s H args us vs Q E hr e0 b r z => (h vs H Q E z).elim⟩
theorem ok_allows (T : Txt K mg a d) : ∀ n, FnOk P w K mg base CX0 n a.allows d.allows ["form", "kept"] (spAllows K n)
  | 0 => fn_none fun vs H Q E ⟨f, v, q, ks, _, h, _⟩ => by omega
  | n + 1 => by
    have G_allows := ok_allows T n
    refine T.allows.ok sc_allows (fun vs H Q E h => ?_) (fun cdv A outer s H vs Q E hr h => ?_)
    · obtain ⟨f, v, q, ks, rfl, _⟩ := h
      rfl
    · obtain ⟨f, v, q, ks, rfl, hd, ho, hv, hq, k⟩ := h
      refine ⟨_, (pss_cons (ps_set (i := 2) sc_allows.nd rfl (Or.inl rfl) (pe_ix ix_tup (pv 0) pe_int (fun _ _ => rfl)))
  (pss_cons (ps_if (pt_cmpR op_eq (pv 2) pe_str (nomark _)) (pss_one (ps_ret pe_bl)) pss_nil)
  (pss_cons (ps_if (pt_cmpR op_eq (pv 2) pe_str (nomark _)) (pss_one (ps_ret (pe_cmpR op_in_seq (pe_ix ix_tup (pv 0) pe_int (fun _ _ => rfl)) (pv 1) (by rfl)))) pss_nil)
  (pss_cons (ps_if (pt_cmpR op_eq (pv 2) pe_str (nomark _)) (pss_cons (ps_setLc (i := 3) (own := [("record", 4)]) rfl sc_allows.nd rfl rfl (sw_true rfl rfl rfl (by decide +kernel)) (pi_tup (pe_slice sl_tup (pv 0) (po_some pe_int) po_none)) (blkOk_by (own := [("record", 4)]) (N := ["form", "kept", "word", "there", "record"]) (sc := defScope s_allows) (by decide +kernel)) (fun _ _ _ _ _ => (pg_name (i := 4) sc_allows.nd rfl (Or.inl rfl))) (fun _ _ _ _ _ => (pts_one (pt_cmpR (op_inK (K := K) rfl) (pv 4) (pv 1) (by rfl)))) (fun _ _ _ _ _ => (pv 4)))
  (pss_one (ps_ret (pe_cmpR op_in_seq (pe_callB call_len_seq (by rfl) T.n_len PySem.boot_len (pa_cons (pv 3) pa_nil)) (pe_tup (pa_cons pe_int (pa_cons (pe_op op_sub (pe_callB call_len_seq (by rfl) T.n_len PySem.boot_len (pa_cons (pv 0) pa_nil)) pe_int) pa_nil))) (by rfl))))) pss_nil)
  (pss_cons (ps_if (pt_cmpR op_eq (pv 2) pe_str (nomark _)) (pss_one (ps_ret (pe_not (pe_call G_allows (hr.mono (by omega)) (by rfl) T.g_allows T.allows.kp T.b_allows .nil pass0 (pa_cons (pe_ix ix_tup (pv 0) pe_int (fun _ _ => rfl)) (pa_cons (pv 1) pa_nil)))))) pss_nil)
  (pss_cons (ps_if (pt_cmpR op_eq (pv 2) pe_str (nomark _)) (pss_one (ps_ret (pe_and (pe_call G_allows (hr.mono (by omega)) (by rfl) T.g_allows T.allows.kp T.b_allows .nil pass0 (pa_cons (pe_ix ix_tup (pv 0) pe_int (fun _ _ => rfl)) (pa_cons (pv 1) pa_nil))) (pe_one (pe_call G_allows (hr.mono (by omega)) (by rfl) T.g_allows T.allows.kp T.b_allows .nil pass0 (pa_cons (pe_ix ix_tup (pv 0) pe_int (fun _ _ => rfl)) (pa_cons (pv 1) pa_nil))))))) pss_nil)
  (pss_cons (ps_if (pt_cmpR op_eq (pv 2) pe_str (nomark _)) (pss_one (ps_ret (pe_or (pe_call G_allows (hr.mono (by omega)) (by rfl) T.g_allows T.allows.kp T.b_allows .nil pass0 (pa_cons (pe_ix ix_tup (pv 0) pe_int (fun _ _ => rfl)) (pa_cons (pv 1) pa_nil))) (pe_one (pe_call G_allows (hr.mono (by omega)) (by rfl) T.g_allows T.allows.kp T.b_allows .nil pass0 (pa_cons (pe_ix ix_tup (pv 0) pe_int (fun _ _ => rfl)) (pa_cons (pv 1) pa_nil))))))) pss_nil)
  (pss_one (ps_ret (pe_or (pe_not (pe_call G_allows (hr.mono (by omega)) (by rfl) T.g_allows T.allows.kp T.b_allows .nil pass0 (pa_cons (pe_ix ix_tup (pv 0) pe_int (fun _ _ => rfl)) (pa_cons (pv 1) pa_nil)))) (pe_one (pe_call G_allows (hr.mono (by omega)) (by rfl) T.g_allows T.allows.kp T.b_allows .nil pass0 (pa_cons (pe_ix ix_tup (pv 0) pe_int (fun _ _ => rfl)) (pa_cons (pv 1) pa_nil)))))))))))))), ?_⟩
      dsimp only [cxOf]
      have fk := flat_strs (l := ks)
      cases f with
      | alw =>
        obtain ⟨p, rfl, hp⟩ := hv
        walk_at "rd"
        exact k H (Same.refl H)
      | has z =>
        obtain ⟨p, rfl, hp⟩ := hv
        walk_at "rd"
        rw [inV_strs]
        exact k H (Same.refl H)
      | tog zs =>
        obtain ⟨p, rfl, hp⟩ := hv
        have e1 : atI (V.str "together" :: zs.map V.str) 0 = some (.str "together") := (atI_nat rfl : atI (V.str "together" :: zs.map V.str) ((0 : Nat) : Int) = some (.str "together"))
        have e2 : ¬ (HT.sIx (V.str "together" :: zs.map V.str).length 0 (some 1) = 0 ∧ HT.sIx (V.str "together" :: zs.map V.str).length (V.str "together" :: zs.map V.str).length none = (V.str "together" :: zs.map V.str).length) := by
          rintro ⟨z, _⟩
          unfold HT.sIx at z
          simp at z
        have lz : zs.length ≤ 6 := ho.2
        walk_at "rd"
        intro p2 hp2
        rw [cut1]
        have s2 : Same H (upd H p2 (.tup (zs.map V.str))) := (Same.refl H).new hp2
        have ht2 := upd_same (H := H) (a := p2) (o := .tup (zs.map V.str))
        generalize upd H p2 (.tup (zs.map V.str)) = H2 at s2 ht2 ⊢
        walk_at "rd"
        refine ⟨⟨_, SqT.of ht2⟩, ?_⟩
        intro S hS
        refine lc_tup (xs := zs.map V.str) (fun i H' => Same H2 H' ∧ H' S = some (.lst (((zs.take i).filter fun z => decide (z ∈ ks)).map V.str))) ?_ ?_ ?_ ?_
        · exact ⟨(Same.refl H2).new hS, upd_same⟩
        · rintro i H' _ ⟨s1, _⟩
          exact SqT.of (s1 _ _ ht2)
        · rintro i v H' hv ⟨s1, hS'⟩
          rw [List.getElem?_map] at hv
          obtain ⟨z, hz, rfl⟩ : ∃ z, zs[i]? = some z ∧ v = .str z := by
            cases e : zs[i]? with
            | none => rw [e] at hv; cases hv
            | some z => rw [e] at hv; cases hv; exact ⟨z, rfl, rfl⟩
          have hq' := sq_same hq (s2.trans s1)
          have hl : (((zs.take i).filter fun z => decide (z ∈ ks)).map V.str).length < sizeLine := by
            have := List.length_filter_le (fun z => decide (z ∈ ks)) (zs.take i)
            rw [List.length_take] at this
            rw [List.length_map, sizeLine_eq]; omega
          have st : (zs.take (i + 1)).filter (fun z => decide (z ∈ ks)) = (zs.take i).filter (fun z => decide (z ∈ ks)) ++ (if decide (z ∈ ks) = true then [z] else []) := by
            rw [List.take_add_one, hz, List.filter_append]
            show _ ++ List.filter _ [z] = _
            rw [List.filter_cons, List.filter_nil]
          rw [st]
          walk_at "rd"
          rw [show (if false = true then !inV (V.str z) (ks.map V.str) else inV (V.str z) (ks.map V.str)) = inV (V.str z) (ks.map V.str) from rfl, inV_strs]
          cases hb : decide (z ∈ ks) with
          | true =>
            walk_at "rd"
            exact ⟨s1.frsh hS, by rw [if_pos rfl, List.map_append]; exact upd_same⟩
          | false =>
            walk_at "rd"
            rw [if_neg (by simp), List.append_nil]
            exact hS'
        · rintro H' ⟨s1, hS'⟩
          rw [List.length_map, List.take_length] at hS'
          have hp' := s1 _ _ (s2 _ _ hp)
          walk_at "rd"
          intro p3 hp3
          refine ⟨_, _, rfl, .inr (SqT.of upd_same), rfl, rfl, ?_⟩
          have s3 := (s2.trans s1).new (o := .tup [V.int 0, V.int (((V.str "together" :: zs.map V.str).length : Int) - 1)]) hp3
          have z := k _ s3
          have e5 : ((V.str "together" :: zs.map V.str).length : Int) - 1 = (zs.length : Int) + 1 - 1 := by
            rw [List.length_cons, List.length_map]; omega
          have e6 : Fm.sat ks (.tog zs) = inV (V.int ((((zs.filter fun z => decide (z ∈ ks)).map V.str).length : Nat) : Int)) [V.int 0, V.int (((V.str "together" :: zs.map V.str).length : Int) - 1)] := by
            rw [e5, List.length_map]; rfl
          rw [e6] at z
          exact z
      | nt f =>
        obtain ⟨p, x, rfl, hp, hx⟩ := hv
        have hd' : f.dep < n := by
          have : f.dep + 1 < n + 1 := hd
          omega
        walk_at "rd"
        refine ⟨f, x, q, ks, rfl, hd', ho, hx, hq, fun H1 s1 => ?_⟩
        walk_at "rd"
        exact k H1 s1
      | bin w' f g =>
        obtain ⟨p, x, y, rfl, hp, hx, hy⟩ := hv
        have hd' : max f.dep g.dep + 1 < n + 1 := hd
        have hf : f.dep < n := by omega
        have hg : g.dep < n := by omega
        obtain ⟨o1, o2, o3, o4⟩ := ho
        have o1 : w' = "and" ∨ w' = "or" ∨ w' = "needs" := by simpa [opsS] using o1
        rcases o1 with rfl | rfl | rfl
        · have ek : Fm.sat ks (.bin "and" f g) = (f.sat ks && g.sat ks) := if_pos rfl
          rw [ek] at k
          walk_at "rd"
          refine ⟨f, x, q, ks, rfl, hf, o2, hx, hq, fun H1 s1 => ?_⟩
          have hp1 := s1 _ _ hp
          cases hb : f.sat ks with
          | true =>
            rw [hb] at k
            walk_at "rd"
            exact ⟨g, y, q, ks, rfl, hg, o3, hy.im s1.im, sq_same hq s1, fun H2 s2 => k H2 (s1.trans s2)⟩
          | false =>
            rw [hb] at k
            walk_at "rd"
            exact k H1 s1
        · have ek : Fm.sat ks (.bin "or" f g) = (f.sat ks || g.sat ks) := by
            show (if ("or" : Str) = "and" then _ else _) = _
            rw [if_neg (by decide +kernel)]
            exact if_pos rfl
          rw [ek] at k
          walk_at "rd"
          refine ⟨f, x, q, ks, rfl, hf, o2, hx, hq, fun H1 s1 => ?_⟩
          have hp1 := s1 _ _ hp
          cases hb : f.sat ks with
          | true =>
            rw [hb] at k
            walk_at "rd"
            exact k H1 s1
          | false =>
            rw [hb] at k
            walk_at "rd"
            exact ⟨g, y, q, ks, rfl, hg, o3, hy.im s1.im, sq_same hq s1, fun H2 s2 => k H2 (s1.trans s2)⟩
        · have ek : Fm.sat ks (.bin "needs" f g) = (!f.sat ks || g.sat ks) := by
            show (if ("needs" : Str) = "and" then _ else _) = _
            rw [if_neg (by decide +kernel), if_neg (by decide +kernel)]
          rw [ek] at k
          walk_at "rd"
          refine ⟨f, x, q, ks, rfl, hf, o2, hx, hq, fun H1 s1 => ?_⟩
          have hp1 := s1 _ _ hp
          cases hb : f.sat ks with
          | false =>
            rw [hb] at k
            walk_at "rd"
            exact k H1 s1
          | true =>
            rw [hb] at k
            walk_at "rd"
            exact ⟨g, y, q, ks, rfl, hg, o3, hy.im s1.im, sq_same hq s1, fun H2 s2 => k H2 (s1.trans s2)⟩
/-! ### mentioned -/
def spMent (n : Nat) : Sp := fun vs H Q _ => ∃ f v, vs = [v] ∧ Fm.dep f < n ∧ f.Ok ∧ FmAt H f v ∧ ∀ H' q, Same H H' → H' q = some (.lst (f.recs.map V.str)) → H q = none → Q (.ref q) H'
theorem ment_cs {H : Hp} {n : Nat} {f : Fm} {v : V} (hd : f.dep < n + 1) (ho : f.Ok) (hv : FmAt H f v) :
    (∃ p hd0 zs, v = .ref p ∧ H p = some (.tup (.str hd0 :: zs.map V.str)) ∧ (hd0 = "has" ∨ hd0 = "together") ∧ zs.length ≤ 6 ∧ f.recs = sortT (setT zs)) ∨
    ∃ p hd0, ∃ ps : List (Fm × V), v = .ref p ∧ H p = some (.tup (.str hd0 :: ps.map (·.2))) ∧ inV (.str hd0) [.str "has", .str "together"] = false ∧ (∀ e ∈ ps, e.1.dep < n ∧ e.1.Ok ∧ FmAt H e.1 e.2) ∧ ps.length ≤ 2 ∧ f.recs = sortT (setT ((ps.map (·.1.recs)).flatten)) := by
  cases f with
  | has z =>
    obtain ⟨p, rfl, hp⟩ := hv
    exact .inl ⟨p, "has", [z], rfl, hp, .inl rfl, by simp, rfl⟩
  | tog zs =>
    obtain ⟨p, rfl, hp⟩ := hv
    exact .inl ⟨p, "together", zs, rfl, hp, .inr rfl, ho.2, rfl⟩
  | alw =>
    obtain ⟨p, rfl, hp⟩ := hv
    exact .inr ⟨p, "always", [], rfl, hp, by decide +kernel, (fun e he => nomatch he), by simp, rfl⟩
  | nt g =>
    obtain ⟨p, x, rfl, hp, hx⟩ := hv
    have hd : g.dep + 1 < n + 1 := hd
    refine .inr ⟨p, "not", [(g, x)], rfl, hp, by decide +kernel, fun e he => ?_, by simp, ?_⟩
    · cases List.mem_singleton.mp he
      exact ⟨by show g.dep < n; omega, ho, hx⟩
    · show sortT (setT g.recs) = _
      simp
  | bin w' g h =>
    obtain ⟨p, x, y, rfl, hp, hx, hy⟩ := hv
    have hd : max g.dep h.dep + 1 < n + 1 := hd
    obtain ⟨o1, o2, o3, o4⟩ := ho
    have o1 : w' = "and" ∨ w' = "or" ∨ w' = "needs" := by simpa [opsS] using o1
    refine .inr ⟨p, w', [(g, x), (h, y)], rfl, hp, by rcases o1 with rfl | rfl | rfl <;> decide +kernel, fun e he => ?_, by simp, ?_⟩
    · rcases List.mem_cons.mp he with rfl | he
      · exact ⟨by simp only; omega, o2, hx⟩
      · cases List.mem_singleton.mp he
        exact ⟨by simp only; omega, o3, hy⟩
    · show sortT (setT (g.recs ++ h.recs)) = _
      simp
theorem nwhole {x : V} {xs : List V} : ¬ (HT.sIx (x :: xs).length 0 (some 1) = 0 ∧ HT.sIx (x :: xs).length (x :: xs).length none = (x :: xs).length) := by
  rintro ⟨z, _⟩
  unfold HT.sIx at z
  simp at z
theorem at0 {x : V} {xs : List V} : atI (x :: xs) 0 = some x := (atI_nat rfl : atI (x :: xs) ((0 : Nat) : Int) = some x)
theorem flat_len {ps : List (Fm × V)} (h : ∀ e ∈ ps, e.1.Ok) : ((ps.map (·.1.recs)).flatten).length ≤ 6 * ps.length := by
  induction ps with
  | nil => simp
  | cons e r ih =>
    have h1 := (h e List.mem_cons_self).len
    have h2 := ih fun x hx => h x (List.mem_cons_of_mem _ hx)
    simp only [List.map_cons, List.flatten_cons, List.length_append, List.length_cons]
    omega
theorem ok_mentioned (T : Txt K mg a d) : ∀ n, FnOk P w K mg base CX0 n a.mentioned d.mentioned ["form"] (spMent n)
  | 0 => fn_none fun vs H Q E ⟨f, v, _, h, _⟩ => by omega
  | n + 1 => by
    have G_mentioned := ok_mentioned T n
    refine T.mentioned.ok sc_mentioned (fun vs H Q E h => ?_) (fun cdv A outer s H vs Q E hr h => ?_)
    · obtain ⟨f, v, rfl, _⟩ := h
      rfl
    · obtain ⟨f, v, rfl, hd, ho, hv, k⟩ := h
      refine ⟨_, (pss_cons (ps_if (pt_cmpR op_in_seq (pe_ix ix_tup (pv 0) pe_int (fun _ _ => rfl)) (pe_tup (pa_cons pe_str (pa_cons pe_str pa_nil))) (by rfl)) (pss_one (ps_ret (pe_callB (cr_sortTS rfl) (by rfl) T.n_sorted (by decide +kernel) (pa_cons (pe_callTy (cr_setTST rfl) (by rfl) T.n_set (by decide +kernel) (pa_cons (pe_slice sl_tup (pv 0) (po_some pe_int) po_none) pa_nil)) pa_nil)))) pss_nil)
  (pss_cons (ps_set (i := 1) sc_mentioned.nd rfl (Or.inl rfl) (pe_lst pa_nil))
  (pss_cons (ps_for PassesOwn.never rfl (pi_tup (pe_slice sl_tup (pv 0) (po_some pe_int) po_none)) (pg_name (i := 2) sc_mentioned.nd rfl (Or.inl rfl))
  (pss_one (ps_set (i := 1) sc_mentioned.nd rfl (Or.inl rfl) (pe_op op_cat (pv 1) (pe_call G_mentioned (hr.mono (by omega)) (by rfl) T.g_mentioned T.mentioned.kp T.b_mentioned .nil pass0 (pa_cons (pv 2) pa_nil))))))
  (pss_one (ps_ret (pe_callB (cr_sortTS rfl) (by rfl) T.n_sorted (by decide +kernel) (pa_cons (pe_callTy (cr_setTSL rfl) (by rfl) T.n_set (by decide +kernel) (pa_cons (pv 1) pa_nil)) pa_nil))))))), ?_⟩
      dsimp only [cxOf]
      rcases ment_cs hd ho hv with ⟨p, hd0, zs, rfl, hp, hh, hz, er⟩ | ⟨p, hd0, ps, rfl, hp, hh, hps, hl, er⟩
      · have hh : inV (.str hd0) [.str "has", .str "together"] = true := by rcases hh with rfl | rfl <;> decide +kernel
        rw [er] at k
        have e1 := at0 (x := .str hd0) (xs := zs.map V.str)
        have e2 := nwhole (x := .str hd0) (xs := zs.map V.str)
        have lz : zs.length + 1 < scanBound := by
          have : scanBound = 4096 := rfl
          omega
        walk_at "rd"
        intro p1 hp1
        have s1 : Same H (upd H p1 (.tup [.str "has", .str "together"])) := (Same.refl H).new hp1
        have ht1 := upd_same (H := H) (a := p1) (o := .tup [.str "has", .str "together"])
        generalize upd H p1 (.tup [.str "has", .str "together"]) = H1 at s1 ht1 ⊢
        refine ⟨p1, _, rfl, .inr (SqT.of ht1), rfl, rfl, ?_⟩
        have hp' := s1 _ _ hp
        rw [hh]
        walk_at "rd"
        intro p2 hp2
        rw [cut1]
        have s2 : Same H (upd H1 p2 (.tup (zs.map V.str))) := s1.new hp2
        have ht2 := upd_same (H := H1) (a := p2) (o := .tup (zs.map V.str))
        generalize upd H1 p2 (.tup (zs.map V.str)) = H2 at s2 ht2 ⊢
        refine ⟨p2, zs, rfl, SqT.of ht2, lz, fun q3 hq3 => ?_⟩
        have s3 := s2.new (o := TSO w q3 (setT zs)) hq3
        have ht3 := upd_same (H := H2) (a := q3) (o := TSO w q3 (setT zs))
        generalize upd H2 q3 (TSO w q3 (setT zs)) = H3 at s3 ht3 ⊢
        refine ⟨q3, setT zs, rfl, ht3, fun q4 hq4 => ?_⟩
        exact k _ q4 (s3.new hq4) upd_same (s3.free hq4)
      · rw [er] at k
        have e1 := at0 (x := .str hd0) (xs := ps.map (·.2))
        have e2 := nwhole (x := .str hd0) (xs := ps.map (·.2))
        walk_at "rd"
        intro p1 hp1
        have s1 : Same H (upd H p1 (.tup [.str "has", .str "together"])) := (Same.refl H).new hp1
        have ht1 := upd_same (H := H) (a := p1) (o := .tup [.str "has", .str "together"])
        generalize upd H p1 (.tup [.str "has", .str "together"]) = H1 at s1 ht1 ⊢
        refine ⟨p1, _, rfl, .inr (SqT.of ht1), rfl, rfl, ?_⟩
        rw [hh]
        have hp' := s1 _ _ hp
        walk_at "rd"
        intro q2 hq2
        have s2 : Same H (upd H1 q2 (.lst [])) := s1.new hq2
        have hl2 := upd_same (H := H1) (a := q2) (o := .lst [])
        generalize upd H1 q2 (.lst []) = H2 at s2 hl2 ⊢
        have hp2 := s2 _ _ hp
        walk_at "rd"
        intro p3 hp3
        rw [cut1]
        have s3 : Same H (upd H2 p3 (.tup (ps.map (·.2)))) := s2.new hp3
        have ht3 := upd_same (H := H2) (a := p3) (o := .tup (ps.map (·.2)))
        have hl3 := upd_old (o := .tup (ps.map (·.2))) hl2 hp3
        generalize upd H2 p3 (.tup (ps.map (·.2))) = H3 at s3 ht3 hl3 ⊢
        walk_at "rd"
        refine ⟨⟨_, SqT.of ht3⟩, ?_⟩
        refine for_tup (xs := ps.map (·.2)) (fun i σ H' => Same H3 H' ∧ ∃ r v2, H' r = some (.lst ((((ps.take i).map (·.1.recs)).flatten).map V.str)) ∧ σ = [some (.ref p), some (.ref r), v2]) ?_ ?_ ?_ ?_
        · exact ⟨Same.refl _, q2, _, hl3, rfl⟩
        · rintro i σ H' _ ⟨s4, _⟩
          exact SqT.of (s4 _ _ ht3)
        · rintro i x σ H' hx ⟨s4, r, v2, hr4, rfl⟩
          rw [List.getElem?_map] at hx
          obtain ⟨e, he, rfl⟩ : ∃ e, ps[i]? = some e ∧ x = e.2 := by
            cases q : ps[i]? with
            | none => rw [q] at hx; cases hx
            | some e => rw [q] at hx; cases hx; exact ⟨e, rfl, rfl⟩
          obtain ⟨d1, d2, d3⟩ := hps e (List.mem_of_getElem? he)
          have l1 := flat_len (ps := ps.take i) fun e he => (hps e (List.mem_of_mem_take he)).2.1
          have l2 : (ps.take i).length ≤ 2 := by rw [List.length_take]; omega
          have l3 := d2.len
          walk_at "rd"
          refine ⟨e.1, e.2, rfl, d1, d2, d3.im (s3.trans s4).im, fun H5 q5 s5 h5 _ => ?_⟩
          have hr5 := s5 _ _ hr4
          have l4 : (List.map V.str ((ps.take i).map (·.1.recs)).flatten).length + (List.map V.str e.1.recs).length ≤ sizeLine := by
            rw [List.length_map, List.length_map, sizeLine_eq]; omega
          walk_at "rd"
          intro q6 hq6
          refine ⟨(s4.trans s5).new hq6, q6, _, ?_, rfl⟩
          rw [upd_same, List.take_add_one, he, List.map_append, List.flatten_append, List.map_append]
          simp
        · rintro σ H' ⟨s4, r, v2, hr4, rfl⟩
          rw [List.length_map, List.take_length] at hr4
          have l1 := flat_len (ps := ps) fun e he => (hps e he).2.1
          have lz : ((ps.map (·.1.recs)).flatten).length + 1 < scanBound := by
            have : scanBound = 4096 := rfl
            omega
          have s5 := s3.trans s4
          walk_at "rd"
          intro q5 hq5
          have s6 := s5.new (o := TSO w q5 (setT ((ps.map (·.1.recs)).flatten))) hq5
          have ht6 := upd_same (H := H') (a := q5) (o := TSO w q5 (setT ((ps.map (·.1.recs)).flatten)))
          generalize upd H' q5 (TSO w q5 (setT ((ps.map (·.1.recs)).flatten))) = H6 at s6 ht6 ⊢
          refine ⟨q5, _, rfl, ht6, fun q7 hq7 => ?_⟩
          exact k _ q7 (s6.new hq7) upd_same (s6.free hq7)
/-! ### Rule -/
def spRuI (a : Ad) : Sp := fun vs H Q _ => ∃ (x dx : Addr) (v : V), vs = [.ref x, v] ∧ H x = some (.ins a.Rule dx []) ∧ Q .non (upd H x (.ins a.Rule dx [("form", v)]))
theorem ok_RuleU_initU (T : Txt K mg a d) : FnOk P w K mg base CX0 1 a.RuleU_initU d.RuleU_initU ["self", "form"] (spRuI a) := by
  refine T.RuleU_initU.ok sc_RuleU_initU (fun vs H Q E h => ?_) (fun cdv A outer s H vs Q E hr h => ?_)
  · obtain ⟨x, dx, v, rfl, _⟩ := h
    rfl
  · obtain ⟨x, dx, v, rfl, hx, k⟩ := h
    have c1 := T.k_Rule
    have n1 := T.na_Rule_form
    refine ⟨_, (pss_one (ps_fld (pv 0) (pv 1) rfl)), ?_⟩
    try dsimp only [cxOf]
    walk_at "rd"
    exact k
/-- a rule that is made -/
theorem ru_made {a : Ad} {H H1 : Hp} {f : Fm} {v : V} {x dx : Addr} (s : Same H H1) (hx : H1 x = none) (hdx : H1 dx = none) (hf : FmAt H1 f v) (ho : f.Ok) : Same H (upd (upd (upd H1 dx (.own x)) x (.ins a.Rule dx [])) x (.ins a.Rule dx [("form", v)])) ∧ RuAt a (upd (upd (upd H1 dx (.own x)) x (.ins a.Rule dx [])) x (.ins a.Rule dx [("form", v)])) f (.ref x) := by
  have s1 : Same H1 (upd (upd (upd H1 dx (.own x)) x (.ins a.Rule dx [])) x (.ins a.Rule dx [("form", v)])) := (((Same.refl H1).new hdx).frsh hx).frsh hx
  exact ⟨s.trans s1, x, dx, v, rfl, upd_same, hf.im s1.im, ho⟩
def outR (a : Ad) (f : Fm) (H : Hp) (Q : VK) : Prop := ∀ H' r, Same H H' → RuAt a H' f r → Q r H'
def spRHas (a : Ad) : Sp := fun vs H Q E => ∃ v, vs = [v] ∧ Thing H v ∧ match v with
  | .str z => if wordS z = true then outR a (.has z) H Q else errQ a.BadWord ef_BadWord [v] H E
  | v => errQ a.BadWord ef_BadWord [v] H E
theorem ok_Rule_has (T : Txt K mg a d) : FnOk P w K mg base (L2.CX P w) 3 a.Rule_has d.Rule_has ["record"] (spRHas a) := by
  have G_is_word : FnOk P w K mg base CX0 1 a.is_word d.is_word ["thing"] spIsWord := ok_is_word T
  have G_RuleU_initU : FnOk P w K mg base CX0 1 a.RuleU_initU d.RuleU_initU ["self", "form"] (spRuI a) := ok_RuleU_initU T
  refine T.Rule_has.okX sc_Rule_has (fun vs H Q E h => ?_) (fun cdv A outer s H vs Q E hr h => ?_)
  · obtain ⟨v, rfl, _⟩ := h
    rfl
  · obtain ⟨v, rfl, tv, k⟩ := h
    refine ⟨_, (pss_cons (ps_if (pt_not (pt_val (pe_call G_is_word (hr.mono (by decide)) (by rfl) T.g_is_word T.is_word.kp T.b_is_word .nil pass0 (pa_cons (pv 0) pa_nil)))) (pss_one (ps_raise rfl (takes_of rfl rfl rfl rfl) (pmk_err T.e_BadWord T.g_BadWord T.n_super hr (pa_cons (pv 0) pa_nil)))) pss_nil)
  (pss_one (ps_ret (pe_make T.mk_Rule G_RuleU_initU (hr.mono (by decide)) (by rfl) T.g_Rule T.b_RuleU_initU .nil pass0 (pa_cons (pe_tup (pa_cons pe_str (pa_cons (pv 0) pa_nil))) pa_nil))))), ?_⟩
    try dsimp only [cxOf]
    walk_at "rd"
    cases bz : wordB v with
    | false =>
      refine iteT ?_
      walk_at "rd"
      cases v with
      | str z =>
        dsimp only at k
        rw [if_neg (by rw [show wordS z = false from bz]; simp)] at k
        exact k
      | _ => exact k
    | true =>
      refine iteF ?_
      obtain ⟨z, rfl⟩ : ∃ z, v = .str z := by
        cases v <;> first | exact ⟨_, rfl⟩ | cases bz
      dsimp only at k
      rw [if_pos (show wordS z = true from bz)] at k
      walk_at "rd"
      intro p hp
      have s1 : Same H (upd H p (.tup [.str "has", .str z])) := (Same.refl H).new hp
      have ht := upd_same (H := H) (a := p) (o := .tup [.str "has", .str z])
      generalize upd H p (.tup [.str "has", .str z]) = H1 at s1 ht ⊢
      walk_at "rd"
      intro x dx hx hdx nxd
      refine ⟨x, dx, .ref p, rfl, upd_same, rfl, ?_⟩
      obtain ⟨r1, r2⟩ := ru_made (a := a) (f := .has z) s1 hx hdx ⟨p, rfl, ht⟩ (wordS_of bz)
      exact k _ _ r1 r2
/-- Rule.always() -/
def spAlw (a : Ad) : Sp := fun vs H Q _ => vs = [] ∧ outR a .alw H Q
theorem ok_Rule_always (T : Txt K mg a d) : FnOk P w K mg base CX0 3 a.Rule_always d.Rule_always [] (spAlw a) := by
  have G_RuleU_initU : FnOk P w K mg base CX0 1 a.RuleU_initU d.RuleU_initU ["self", "form"] (spRuI a) := ok_RuleU_initU T
  refine T.Rule_always.ok sc_Rule_always (fun vs H Q E h => ?_) (fun cdv A outer s H vs Q E hr h => ?_)
  · obtain ⟨rfl, _⟩ := h
    rfl
  · obtain ⟨rfl, k⟩ := h
    refine ⟨_, (pss_one (ps_ret (pe_make T.mk_Rule G_RuleU_initU (hr.mono (by decide)) (by rfl) T.g_Rule T.b_RuleU_initU .nil pass0 (pa_cons (pe_tup (pa_cons pe_str pa_nil)) pa_nil)))), ?_⟩
    try dsimp only [cxOf]
    walk_at "rd"
    intro p hp
    have s1 : Same H (upd H p (.tup [.str "always"])) := (Same.refl H).new hp
    have ht := upd_same (H := H) (a := p) (o := .tup [.str "always"])
    generalize upd H p (.tup [.str "always"]) = H1 at s1 ht ⊢
    walk_at "rd"
    intro x dx hx hdx nxd
    refine ⟨x, dx, .ref p, rfl, upd_same, rfl, ?_⟩
    obtain ⟨r1, r2⟩ := ru_made (a := a) (f := .alw) s1 hx hdx ⟨p, rfl, ht⟩ trivial
    exact k _ _ r1 r2
theorem r_Rule_always (T : Txt K mg a d) : FnR P w K mg base CX0 3 a.Rule_always (spAlw a) := ((ok_Rule_always T).raw T.b_Rule_always .nil).imp fun vs H Q E h => by rw [List.append_nil]; exact h
/-- Rule.together(..) -/
def badV (xs : List V) : Option V := xs.find? fun v => !wordB v
theorem badV_at {xs : List V} {i : Nat} {v : V} (h : xs[i]? = some v) (a : ∀ x ∈ xs.take i, wordB x = true) (b : wordB v = false) : badV xs = some v := by
  unfold badV
  have hi := (List.getElem?_eq_some_iff.mp h).1
  have e : xs = xs.take i ++ v :: xs.drop (i + 1) := by
    have := List.take_append_drop i xs
    rw [List.drop_eq_getElem_cons hi, (List.getElem?_eq_some_iff.mp h).2] at this
    exact this.symm
  rw [e, List.find?_append, List.find?_eq_none.mpr (fun x hx => by rw [a x hx]; simp), Option.none_or, List.find?_cons, b]
  rfl
theorem badV_no {xs : List V} (a : ∀ x ∈ xs, wordB x = true) : badV xs = none := List.find?_eq_none.mpr fun x hx => by rw [a x hx]; simp
theorem words_of {xs : List V} (a : ∀ x ∈ xs, wordB x = true) : ∃ zs : List Str, xs = zs.map V.str ∧ ∀ z ∈ zs, IsWord z := by
  induction xs with
  | nil => exact ⟨[], rfl, fun _ h => nomatch h⟩
  | cons x r ih =>
    obtain ⟨zs, e, h⟩ := ih fun y hy => a y (List.mem_cons_of_mem _ hy)
    have hx := a x List.mem_cons_self
    obtain ⟨z, rfl⟩ : ∃ z, x = .str z := by
      cases x <;> first | exact ⟨_, rfl⟩ | cases hx
    refine ⟨z :: zs, by rw [e]; rfl, fun y hy => ?_⟩
    rcases List.mem_cons.mp hy with rfl | hy
    · exact wordS_of hx
    · exact h y hy
def outT (a : Ad) (xs : List V) (H : Hp) (Q : VK) (E : XK) : Prop := match badV xs with
  | some v => errQ a.BadWord ef_BadWord [v] H E
  | none => ∀ zs : List Str, xs = zs.map V.str → (∀ z ∈ zs, IsWord z) → if 6 < (setT zs).length then (∀ H', Same H H' → errQ a.TooMany ef_TooMany [.str "records"] H' E) else outR a (.tog (sortT (setT zs))) H Q
def spTogB (a : Ad) : Sp := fun vs H Q E => ∃ p xs, vs = [.ref p] ∧ H p = some (.tup xs) ∧ (∀ x ∈ xs, Thing H x) ∧ xs.length ≤ 1000 ∧ outT a xs H Q E
def spTog (a : Ad) : Sp := fun vs H Q E => (∀ x ∈ vs, Thing H x) ∧ vs.length ≤ 1000 ∧ ∀ p, H p = none → outT a vs (upd H p (.tup vs)) Q E
theorem ok_Rule_together (T : Txt K mg a d) : FnR P w K mg base (L2.CX P w) 3 a.Rule_together (spTog a) := by
  have G_is_word : FnOk P w K mg base CX0 1 a.is_word d.is_word ["thing"] spIsWord := ok_is_word T
  have G_RuleU_initU : FnOk P w K mg base CX0 1 a.RuleU_initU d.RuleU_initU ["self", "form"] (spRuI a) := ok_RuleU_initU T
  obtain ⟨oc, od, kV, doc, pm, an, cdv, ct, osl, e, lk, hcd⟩ := T.Rule_together.ex
  rw [e] at lk
  obtain ⟨um, v_most, rfl_most⟩ := T.v_MOST_RECORDS
  refine (StX.fn_star (sp := spTogB a) (ps := []) (pv := "records") lk hcd sc_Rule_together StX.cxUp (fun us rest hl => ?_) (fun A outer s H vs Q E hr h => ?_)).imp fun vs H Q E h => ?_
  · match us, hl with
    | [], _ => cases rest <;> rfl
  · obtain ⟨p, xs, rfl, hp, tx, hl, k⟩ := h
    refine ⟨_, (pss_cons (ps_for (passes_of rfl) rfl (pi_tup (pv 0)) (pg_name (i := 1) sc_Rule_together.nd rfl (Or.inl rfl))
  (pss_one (ps_if (pt_not (pt_val (pe_call G_is_word (hr.mono (by decide)) (by rfl) T.g_is_word T.is_word.kp T.b_is_word .nil pass0 (pa_cons (pv 1) pa_nil)))) (pss_one (ps_raise rfl (takes_of rfl rfl rfl rfl) (pmk_err T.e_BadWord T.g_BadWord T.n_super hr (pa_cons (pv 1) pa_nil)))) pss_nil)))
  (pss_cons (ps_set (i := 2) sc_Rule_together.nd rfl (Or.inl rfl) (pe_callB (cr_sortTS rfl) (by rfl) T.n_sorted (by decide +kernel) (pa_cons (pe_callTy (cr_setTST rfl) (by rfl) T.n_set (by decide +kernel) (pa_cons (pv 0) pa_nil)) pa_nil)))
  (pss_cons (ps_if (pt_cmpR op_gt (pe_callB call_len_seq (by rfl) T.n_len PySem.boot_len (pa_cons (pv 2) pa_nil)) (pe_glob (v := .int 6) (by rfl) v_most rfl_most) (nomark _)) (pss_one (ps_raise rfl (takes_of rfl rfl rfl rfl) (pmk_err T.e_TooMany T.g_TooMany T.n_super hr (pa_cons pe_str pa_nil)))) pss_nil)
  (pss_one (ps_ret (pe_make T.mk_Rule G_RuleU_initU (hr.mono (by decide)) (by rfl) T.g_Rule T.b_RuleU_initU .nil pass0 (pa_cons (pe_tup (pa_cons pe_str (StX.pa_star (pv 2) pa_nil))) pa_nil))))))), ?_⟩
    try dsimp only [cxOf]
    unfold outT at k
    walk_at "rd"
    refine ⟨⟨_, SqT.of hp⟩, ?_⟩
    refine for_tup (xs := xs) (fun i σ H' => H' = H ∧ (∀ x ∈ xs.take i, wordB x = true) ∧ ∃ v1 v2, σ = [some (.ref p), v1, v2]) ?_ ?_ ?_ ?_
    · exact ⟨rfl, (fun x hx => nomatch hx), _, _, rfl⟩
    · rintro i σ H' _ ⟨rfl, _⟩
      exact SqT.of hp
    · rintro i v σ H' hv ⟨rfl, ha, v1, v2, rfl⟩
      have tv := tx v (List.mem_of_getElem? hv)
      walk_at "rd"
      cases bz : wordB v with
      | false =>
        rw [badV_at hv ha bz] at k
        refine iteT ?_
        walk_at "rd"
        exact k
      | true =>
        refine iteF ?_
        refine ⟨rfl, fun x hx => ?_, _, _, rfl⟩
        rw [List.take_add_one, hv] at hx
        rcases List.mem_append.mp hx with hx | hx
        · exact ha x hx
        · cases List.mem_singleton.mp hx
          exact bz
    · rintro σ H' ⟨rfl, ha, v1, v2, rfl⟩
      rw [List.take_length] at ha
      obtain ⟨zs, rfl, wz⟩ := words_of ha
      rw [badV_no ha] at k
      have k := k zs rfl wz
      rw [List.length_map] at hl
      have lz : zs.length + 1 < scanBound := by
        have : scanBound = 4096 := rfl
        omega
      walk_at "rd"
      intro q3 hq3
      have s3 := (Same.refl H').new (o := TSO w q3 (setT zs)) hq3
      have ht3 := upd_same (H := H') (a := q3) (o := TSO w q3 (setT zs))
      generalize upd H' q3 (TSO w q3 (setT zs)) = H3 at s3 ht3 ⊢
      refine ⟨q3, setT zs, rfl, ht3, fun q4 hq4 => ?_⟩
      have s4 := s3.new (o := .lst ((sortT (setT zs)).map V.str)) hq4
      have ht4 := upd_same (H := H3) (a := q4) (o := .lst ((sortT (setT zs)).map V.str))
      generalize upd H3 q4 (.lst ((sortT (setT zs)).map V.str)) = H4 at s4 ht4 ⊢
      walk_at "rd"
      rw [List.length_map, sortT_len]
      by_cases b6 : 6 < (setT zs).length
      · rw [if_pos b6] at k
        rw [decide_eq_true (by omega : (6 : Int) < ((setT zs).length : Int))]
        refine iteT ?_
        walk_at "rd"
        exact k H4 s4
      · rw [if_neg b6] at k
        rw [decide_eq_false (by omega : ¬ (6 : Int) < ((setT zs).length : Int))]
        refine iteF ?_
        have l4 : (V.str "together" :: ((sortT (setT zs)).map V.str ++ [])).length ≤ sizeLine := by
          rw [List.append_nil, List.length_cons, List.length_map, sortT_len, sizeLine_eq]; omega
        walk_at "rd"
        intro p5 hp5
        rw [List.append_nil]
        have s5 := s4.new (o := .tup (.str "together" :: (sortT (setT zs)).map V.str)) hp5
        have ht5 := upd_same (H := H4) (a := p5) (o := .tup (.str "together" :: (sortT (setT zs)).map V.str))
        generalize upd H4 p5 (.tup (.str "together" :: (sortT (setT zs)).map V.str)) = H5 at s5 ht5 ⊢
        walk_at "rd"
        intro x dx hx hdx nxd
        refine ⟨x, dx, .ref p5, rfl, upd_same, rfl, ?_⟩
        obtain ⟨r1, r2⟩ := ru_made (a := a) (f := .tog (sortT (setT zs))) s5 hx hdx ⟨p5, rfl, ht5⟩ ⟨fun z hz => wz z (by rw [sortT_mem, setT_mem] at hz; exact hz), by rw [sortT_len]; omega⟩
        exact k _ _ r1 r2
  · obtain ⟨h1, h2, h3⟩ := h
    refine ⟨[], vs, rfl, rfl, by rw [sizeLine_eq]; omega, fun p hp => ⟨p, vs, rfl, upd_same, fun x hx => (h1 x hx).same ((Same.refl H).new hp), h2, h3 p hp⟩⟩
/-! ### records(), the call of a rule -/
def spRecs0 (a : Ad) (n : Nat) : Sp := fun vs H Q _ => ∃ f v, vs = [v] ∧ RuAt a H f v ∧ f.dep < n ∧ ∀ H' q, Same H H' → H' q = some (.lst (f.recs.map V.str)) → H q = none → Q (.ref q) H'
theorem ok_Rule_records (T : Txt K mg a d) (n : Nat) : FnOk P w K mg base CX0 (n + 1) a.Rule_records d.Rule_records ["self"] (spRecs0 a n) := by
  have G_mentioned := ok_mentioned (w := w) (base := base) T n
  refine T.Rule_records.ok sc_Rule_records (fun vs H Q E h => ?_) (fun cdv A outer s H vs Q E hr h => ?_)
  · obtain ⟨f, v, rfl, _⟩ := h
    rfl
  · obtain ⟨f, v, rfl, ⟨p, dx, x, rfl, hp, hf, ho⟩, hd, k⟩ := h
    have c1 := T.k_Rule
    have n1 := T.na_Rule_form
    refine ⟨_, (pss_one (ps_ret (pe_call G_mentioned (hr.mono (by omega)) (by rfl) T.g_mentioned T.mentioned.kp T.b_mentioned .nil pass0 (pa_cons (pe_fld (pv 0) rfl) pa_nil)))), ?_⟩
    try dsimp only [cxOf]
    walk_at "rd"
    exact ⟨f, x, rfl, hd, ho, hf, k⟩
def spRCall (K : PySem.W.Frag) (a : Ad) (n : Nat) : Sp := fun vs H Q _ => ∃ f v q ks, vs = [v, .ref q] ∧ RuAt a H f v ∧ f.dep < n ∧ (SqL K H q (ks.map V.str) ∨ SqT K H q (ks.map V.str)) ∧ ∀ H', Same H H' → Q (.bl (f.sat ks)) H'
theorem ok_RuleU_callU (T : Txt K mg a d) (n : Nat) : FnOk P w K mg base CX0 (n + 1) a.RuleU_callU d.RuleU_callU ["self", "kept"] (spRCall K a n) := by
  have G_allows := ok_allows (w := w) (base := base) T n
  refine T.RuleU_callU.ok sc_RuleU_callU (fun vs H Q E h => ?_) (fun cdv A outer s H vs Q E hr h => ?_)
  · obtain ⟨f, v, q, ks, rfl, _⟩ := h
    rfl
  · obtain ⟨f, v, q, ks, rfl, ⟨p, dx, x, rfl, hp, hf, ho⟩, hd, hq, k⟩ := h
    have c1 := T.k_Rule
    have n1 := T.na_Rule_form
    refine ⟨_, (pss_one (ps_ret (pe_call G_allows (hr.mono (by omega)) (by rfl) T.g_allows T.allows.kp T.b_allows .nil pass0 (pa_cons (pe_fld (pv 0) rfl) (pa_cons (pv 1) pa_nil))))), ?_⟩
    try dsimp only [cxOf]
    walk_at "rd"
    exact ⟨f, x, q, ks, rfl, hd, ho, hf, hq, k⟩
theorem r_RuleU_callU (T : Txt K mg a d) (n : Nat) : FnR P w K mg base CX0 (n + 1) a.RuleU_callU (spRCall K a n) := ((ok_RuleU_callU T n).raw T.b_RuleU_callU .nil).imp fun vs H Q E h => by rw [List.append_nil]; exact h
/-! ### further rules within a comprehension -/
theorem call_len_seqK {X : Cx} {K : PySem.W.Frag} (hK : X.K = K) : CallR X (.builtin "len") (fun xs H Q => ∃ p ys, xs = [V.ref p] ∧ (SqL K H p ys ∨ SqT K H p ys) ∧ Q (V.int (ys.length : Int)) H) := hK ▸ call_len_seq
/-! ### == of lists of texts; a rule together -/
theorem eqv_strs : ∀ xs ys : List Str, PyData.eqvAll (xs.map PyData.str) (ys.map PyData.str) = decide (xs = ys)
  | [], [] => by simp [PyData.eqvAll]
  | [], y :: ys => by simp [PyData.eqvAll]
  | x :: xs, [] => by simp [PyData.eqvAll]
  | x :: xs, y :: ys => by
    show (PyData.eqv (.str x) (.str y) && PyData.eqvAll (xs.map PyData.str) (ys.map PyData.str)) = _
    rw [eqv_strs xs ys]
    show ((x == y) && decide (xs = ys)) = _
    by_cases h : x = y
    · subst h
      simp
    · simp [h]
theorem eqv_lists (xs ys : List Str) : PyData.eqv (.list (xs.map PyData.str)) (.list (ys.map PyData.str)) = decide (xs = ys) := eqv_strs xs ys
theorem filt_all {l : List Str} {p : Str → Bool} : (l.filter p).length = l.length ↔ ∀ z ∈ l, p z = true := List.length_filter_eq_length_iff
theorem filt_no {l : List Str} {p : Str → Bool} : (l.filter p).length = 0 ↔ ∀ z ∈ l, ¬ p z = true := by
  rw [List.length_eq_zero_iff, List.filter_eq_nil_iff]
theorem inV_two {n m : Int} : inV (.int n) [.int 0, .int m] = (decide (n = 0) || decide (n = m)) := by
  show ((0 == n) || ((m == n) || false)) = _
  by_cases h1 : n = 0
  · subst h1
    simp
  · have h1' : ¬ (0 : Int) = n := fun q => h1 q.symm
    by_cases h2 : n = m
    · subst h2
      simp
    · have h2' : ¬ m = n := fun q => h2 q.symm
      simp [h1, h2, h1', h2']
theorem tog_due {ls ks : List Str} : Fm.sat ks (.tog (sortT (setT ls))) = (decide (ls.filter (fun z => decide (z ∈ ks)) = []) || decide (ls.filter (fun z => decide (z ∈ ks)) = ls)) := by
  show inV _ _ = _
  rw [inV_two]
  have m : ∀ z, z ∈ sortT (setT ls) ↔ z ∈ ls := fun z => by rw [sortT_mem, setT_mem]
  congr 1
  · apply decide_eq_decide.mpr
    rw [List.filter_eq_nil_iff]
    constructor
    · intro h z hz
      exact filt_no.mp (by omega : ((sortT (setT ls)).filter (fun z => decide (z ∈ ks))).length = 0) z ((m z).mpr hz)
    · intro h
      have := (filt_no (l := sortT (setT ls)) (p := fun z => decide (z ∈ ks))).mpr fun z hz => h z ((m z).mp hz)
      omega
  · apply decide_eq_decide.mpr
    rw [List.filter_eq_self]
    constructor
    · intro h z hz
      exact filt_all.mp (by omega : ((sortT (setT ls)).filter (fun z => decide (z ∈ ks))).length = (sortT (setT ls)).length) z ((m z).mpr hz)
    · intro h
      have := (filt_all (l := sortT (setT ls)) (p := fun z => decide (z ∈ ks))).mpr fun z hz => h z ((m z).mp hz)
      omega
theorem tog_recs {ls : List Str} : (Fm.tog (sortT (setT ls))).recs = sortT (setT ls) := sortT_set fun k => by rw [sortT_mem, setT_mem]
theorem has_recs {z : Str} : (Fm.has z).recs = [z] := by
  show sortT (setT [z]) = [z]
  have e : setT [z] = [z] := rfl
  rw [e]
  exact List.Perm.eq_singleton (sortT_perm [z])
theorem alw_recs : Fm.alw.recs = [] := List.Perm.eq_nil (sortT_perm [])
/-! ### rules made of rules -/
def spComb (a : Ad) (n : Nat) : Sp := fun vs H Q E => ∃ w' f g v1 v2, vs = [.str w', v1, v2] ∧ w' ∈ opsS ∧ RuAt a H f v1 ∧ RuAt a H g v2 ∧ f.dep < n ∧ g.dep < n ∧
  if 6 < (setT (f.recs ++ g.recs)).length then (∀ H', Same H H' → errQ a.TooMany ef_TooMany [.str "records"] H' E) else outR a (.bin w' f g) H Q
theorem ok_combined (T : Txt K mg a d) (n : Nat) : FnOk P w K mg base (L2.CX P w) (n + 2) a.combined d.combined ["word", "one", "other"] (spComb a n) := by
  have G_Rule_records := ok_Rule_records (w := w) (base := base) T n
  have G_RuleU_initU : FnOk P w K mg base CX0 1 a.RuleU_initU d.RuleU_initU ["self", "form"] (spRuI a) := ok_RuleU_initU T
  obtain ⟨um, v_most, rfl_most⟩ := T.v_MOST_RECORDS
  refine T.combined.okX sc_combined (fun vs H Q E h => ?_) (fun cdv A outer s H vs Q E hr h => ?_)
  · obtain ⟨w', f, g, v1, v2, rfl, _⟩ := h
    rfl
  · obtain ⟨w', f, g, v1, v2, rfl, hw, r1, r2, d1, d2, k⟩ := h
    refine ⟨_, (pss_cons (ps_if (pt_cmpR op_gt (pe_callB cr_lenTS (by rfl) T.n_len PySem.boot_len (pa_cons (pe_callTy (cr_setTSL rfl) (by rfl) T.n_set (by decide +kernel) (pa_cons (pe_op op_cat (pe_meth0 (pv 1) T.k_Rule T.m_Rule_records G_Rule_records (hr.mono (by omega)) T.b_Rule_records .nil pass0) (pe_meth0 (pv 2) T.k_Rule T.m_Rule_records G_Rule_records (hr.mono (by omega)) T.b_Rule_records .nil pass0)) pa_nil)) pa_nil)) (pe_glob (v := .int 6) (by rfl) v_most rfl_most) (nomark _)) (pss_one (ps_raise rfl (takes_of rfl rfl rfl rfl) (pmk_err T.e_TooMany T.g_TooMany T.n_super hr (pa_cons pe_str pa_nil)))) pss_nil)
  (pss_one (ps_ret (pe_make T.mk_Rule G_RuleU_initU (hr.mono (by omega)) (by rfl) T.g_Rule T.b_RuleU_initU .nil pass0 (pa_cons (pe_tup (pa_cons (pv 0) (pa_cons (pe_fld (pv 1) rfl) (pa_cons (pe_fld (pv 2) rfl) pa_nil)))) pa_nil))))), ?_⟩
    try dsimp only [cxOf]
    obtain ⟨p1, x1, y1, e1, h1, f1, o1⟩ := id r1
    obtain ⟨p2, x2, y2, e2, h2, f2, o2⟩ := id r2
    subst e1 e2
    have c1 := T.k_Rule
    have n1 := T.na_Rule_form
    have l1 := o1.len
    have l2 := o2.len
    have l3 : (f.recs.map V.str).length + (g.recs.map V.str).length ≤ sizeLine := by rw [List.length_map, List.length_map, sizeLine_eq]; omega
    have l4 : (f.recs ++ g.recs).length + 1 < scanBound := by
      have : scanBound = 4096 := rfl
      rw [List.length_append]; omega
    walk_at "rd"
    refine ⟨f, _, rfl, r1, d1, fun H3 q3 s3 h3 _ => ?_⟩
    have h23 := s3 _ _ h2
    walk_at "rd"
    refine ⟨g, _, rfl, r2.im s3.im, d2, fun H4 q4 s4 h4 _ => ?_⟩
    have h34 := s4 _ _ h3
    have s4 := s3.trans s4
    walk_at "rd"
    intro q5 hq5
    rw [← List.map_append]
    have s5 := s4.new (o := .lst ((f.recs ++ g.recs).map V.str)) hq5
    have h5 := upd_same (H := H4) (a := q5) (o := .lst ((f.recs ++ g.recs).map V.str))
    generalize upd H4 q5 (.lst ((f.recs ++ g.recs).map V.str)) = H5 at s5 h5 ⊢
    walk_at "rd"
    intro q6 hq6
    have s6 := s5.new (o := TSO w q6 (setT (f.recs ++ g.recs))) hq6
    have h6 := upd_same (H := H5) (a := q6) (o := TSO w q6 (setT (f.recs ++ g.recs)))
    generalize upd H5 q6 (TSO w q6 (setT (f.recs ++ g.recs))) = H6 at s6 h6 ⊢
    have h26 := s6 _ _ h2
    have h16 := s6 _ _ h1
    refine ⟨q6, _, rfl, h6, ?_⟩
    walk_at "rd"
    by_cases b6 : 6 < (setT (f.recs ++ g.recs)).length
    · rw [if_pos b6] at k
      rw [decide_eq_true (by omega : (6 : Int) < ((setT (f.recs ++ g.recs)).length : Int))]
      refine iteT ?_
      walk_at "rd"
      exact k H6 s6
    · rw [if_neg b6] at k
      rw [decide_eq_false (by omega : ¬ (6 : Int) < ((setT (f.recs ++ g.recs)).length : Int))]
      refine iteF ?_
      walk_at "rd"
      intro p7 hp7
      have s7 := s6.new (o := .tup [.str w', y1, y2]) hp7
      have ht7 := upd_same (H := H6) (a := p7) (o := .tup [.str w', y1, y2])
      generalize upd H6 p7 (.tup [.str w', y1, y2]) = H7 at s7 ht7 ⊢
      walk_at "rd"
      intro x dx hx hdx nxd
      refine ⟨x, dx, .ref p7, rfl, upd_same, rfl, ?_⟩
      obtain ⟨r3, r4⟩ := ru_made (a := a) (f := .bin w' f g) s7 hx hdx ⟨p7, y1, y2, rfl, ht7, f1.im s7.im, f2.im s7.im⟩ ⟨hw, o1, o2, by
        show (sortT (setT (f.recs ++ g.recs))).length ≤ 6
        rw [sortT_len]; omega⟩
      exact k _ _ r3 r4
def spBin (a : Ad) (n : Nat) (w' : Str) : Sp := fun vs H Q E => ∃ f g v1 v2, vs = [v1, v2] ∧ RuAt a H f v1 ∧ RuAt a H g v2 ∧ f.dep < n ∧ g.dep < n ∧
  if 6 < (setT (f.recs ++ g.recs)).length then (∀ H', Same H H' → errQ a.TooMany ef_TooMany [.str "records"] H' E) else outR a (.bin w' f g) H Q
theorem ok_RuleU_andU (T : Txt K mg a d) (n : Nat) : FnOk P w K mg base (L2.CX P w) (n + 3) a.RuleU_andU d.RuleU_andU ["self", "other"] (spBin a n "and") := by
  have G_combined : FnOk P w K mg base (L2.CX P w) (n + 2) a.combined d.combined ["word", "one", "other"] (spComb a n) := ok_combined T n
  refine T.RuleU_andU.okX sc_RuleU_andU (fun vs H Q E h => ?_) (fun cdv A outer s H vs Q E hr h => ?_)
  · obtain ⟨f, g, v1, v2, rfl, _⟩ := h
    rfl
  · obtain ⟨f, g, v1, v2, rfl, r1, r2, d1, d2, k⟩ := h
    refine ⟨_, (pss_one (ps_ret (pe_call G_combined (hr.mono (by omega)) (by rfl) T.g_combined T.combined.kp T.b_combined .nil (passes_call (takes_of rfl rfl rfl rfl) (fun _ _ _ _ h => h)) (pa_cons pe_str (pa_cons (pv 0) (pa_cons (pv 1) pa_nil)))))), ?_⟩
    try dsimp only [cxOf]
    walk_at "rd"
    exact ⟨f, g, v1, v2, rfl, by simp, r1, r2, d1, d2, k⟩
theorem ok_RuleU_orU (T : Txt K mg a d) (n : Nat) : FnOk P w K mg base (L2.CX P w) (n + 3) a.RuleU_orU d.RuleU_orU ["self", "other"] (spBin a n "or") := by
  have G_combined : FnOk P w K mg base (L2.CX P w) (n + 2) a.combined d.combined ["word", "one", "other"] (spComb a n) := ok_combined T n
  refine T.RuleU_orU.okX sc_RuleU_orU (fun vs H Q E h => ?_) (fun cdv A outer s H vs Q E hr h => ?_)
  · obtain ⟨f, g, v1, v2, rfl, _⟩ := h
    rfl
  · obtain ⟨f, g, v1, v2, rfl, r1, r2, d1, d2, k⟩ := h
    refine ⟨_, (pss_one (ps_ret (pe_call G_combined (hr.mono (by omega)) (by rfl) T.g_combined T.combined.kp T.b_combined .nil (passes_call (takes_of rfl rfl rfl rfl) (fun _ _ _ _ h => h)) (pa_cons pe_str (pa_cons (pv 0) (pa_cons (pv 1) pa_nil)))))), ?_⟩
    try dsimp only [cxOf]
    walk_at "rd"
    exact ⟨f, g, v1, v2, rfl, by simp, r1, r2, d1, d2, k⟩
theorem ok_RuleU_rshiftU (T : Txt K mg a d) (n : Nat) : FnOk P w K mg base (L2.CX P w) (n + 3) a.RuleU_rshiftU d.RuleU_rshiftU ["self", "other"] (spBin a n "needs") := by
  have G_combined : FnOk P w K mg base (L2.CX P w) (n + 2) a.combined d.combined ["word", "one", "other"] (spComb a n) := ok_combined T n
  refine T.RuleU_rshiftU.okX sc_RuleU_rshiftU (fun vs H Q E h => ?_) (fun cdv A outer s H vs Q E hr h => ?_)
  · obtain ⟨f, g, v1, v2, rfl, _⟩ := h
    rfl
  · obtain ⟨f, g, v1, v2, rfl, r1, r2, d1, d2, k⟩ := h
    refine ⟨_, (pss_one (ps_ret (pe_call G_combined (hr.mono (by omega)) (by rfl) T.g_combined T.combined.kp T.b_combined .nil (passes_call (takes_of rfl rfl rfl rfl) (fun _ _ _ _ h => h)) (pa_cons pe_str (pa_cons (pv 0) (pa_cons (pv 1) pa_nil)))))), ?_⟩
    try dsimp only [cxOf]
    walk_at "rd"
    exact ⟨f, g, v1, v2, rfl, by simp, r1, r2, d1, d2, k⟩
def spInv (a : Ad) : Sp := fun vs H Q _ => ∃ f v, vs = [v] ∧ RuAt a H f v ∧ outR a (.nt f) H Q
theorem ok_RuleU_invertU (T : Txt K mg a d) : FnOk P w K mg base CX0 3 a.RuleU_invertU d.RuleU_invertU ["self"] (spInv a) := by
  have G_RuleU_initU : FnOk P w K mg base CX0 1 a.RuleU_initU d.RuleU_initU ["self", "form"] (spRuI a) := ok_RuleU_initU T
  refine T.RuleU_invertU.ok sc_RuleU_invertU (fun vs H Q E h => ?_) (fun cdv A outer s H vs Q E hr h => ?_)
  · obtain ⟨f, v, rfl, _⟩ := h
    rfl
  · obtain ⟨f, v, rfl, r1, k⟩ := h
    refine ⟨_, (pss_one (ps_ret (pe_make T.mk_Rule G_RuleU_initU (hr.mono (by decide)) (by rfl) T.g_Rule T.b_RuleU_initU .nil pass0 (pa_cons (pe_tup (pa_cons pe_str (pa_cons (pe_fld (pv 0) rfl) pa_nil))) pa_nil)))), ?_⟩
    try dsimp only [cxOf]
    obtain ⟨p1, x1, y1, e1, h1, f1, o1⟩ := id r1
    subst e1
    have c1 := T.k_Rule
    have n1 := T.na_Rule_form
    walk_at "rd"
    intro p7 hp7
    have s7 := (Same.refl H).new (o := .tup [.str "not", y1]) hp7
    have ht7 := upd_same (H := H) (a := p7) (o := .tup [.str "not", y1])
    generalize upd H p7 (.tup [.str "not", y1]) = H7 at s7 ht7 ⊢
    walk_at "rd"
    intro x dx hx hdx nxd
    refine ⟨x, dx, .ref p7, rfl, upd_same, rfl, ?_⟩
    obtain ⟨r3, r4⟩ := ru_made (a := a) (f := .nt f) s7 hx hdx ⟨p7, y1, rfl, ht7, f1.im s7.im⟩ o1
    exact k _ _ r3 r4
/-! ### the law's nodes -/
/-- a node; its lists are none of the pool -/
def NdAt (pp : Addr) (H : Hp) : Fm → V → Prop
  | .has z, v => ∃ p, v = .ref p ∧ H p = some (.tup [.str "has", .str z])
  | .tog zs, v => ∃ p q, v = .ref p ∧ H p = some (.tup [.str "together", .ref q]) ∧ H q = some (.lst (zs.map V.str)) ∧ q ≠ pp
  | .alw, v => ∃ p, v = .ref p ∧ H p = some (.tup [.str "always"])
  | .nt f, v => ∃ p x, v = .ref p ∧ H p = some (.tup [.str "not", x]) ∧ NdAt pp H f x
  | .bin w f g, v => ∃ p x y, v = .ref p ∧ H p = some (.tup [.str w, x, y]) ∧ NdAt pp H f x ∧ NdAt pp H g y
/-- tuples, and lists but the pool, stay -/
def Ik (pp : Addr) (H H' : Hp) : Prop := (∀ p xs, H p = some (.tup xs) → H' p = some (.tup xs)) ∧ ∀ p xs, p ≠ pp → H p = some (.lst xs) → H' p = some (.lst xs)
theorem _root_.L2.Same.ik {pp : Addr} {H H' : Hp} (s : Same H H') : Ik pp H H' := ⟨fun p xs h => s _ _ h, fun p xs _ h => s _ _ h⟩
theorem ik_pool {H H' : Hp} {p : Addr} {o : HO} {c : Nat} (hp : H p = some o) (ho : PoolO o c) (k : Kp (fun b => b = p) H H') : Ik p H H' := by
  refine ⟨fun q xs h => k _ _ h fun e => ?_, fun q xs n h => k _ _ h n⟩
  obtain ⟨a, b, n, rfl, _⟩ := ho
  rw [e, hp] at h; cases h
theorem Ik.trans {pp : Addr} {H H1 H2 : Hp} (a : Ik pp H H1) (b : Ik pp H1 H2) : Ik pp H H2 := ⟨fun p xs h => b.1 p xs (a.1 p xs h), fun p xs n h => b.2 p xs n (a.2 p xs n h)⟩
theorem NdAt.ik {pp : Addr} {H H' : Hp} (s : Ik pp H H') : ∀ {f : Fm} {v : V}, NdAt pp H f v → NdAt pp H' f v
  | .has _, _, ⟨p, e, h⟩ => ⟨p, e, s.1 _ _ h⟩
  | .tog _, _, ⟨p, q, e, h, h2, n⟩ => ⟨p, q, e, s.1 _ _ h, s.2 _ _ n h2, n⟩
  | .alw, _, ⟨p, e, h⟩ => ⟨p, e, s.1 _ _ h⟩
  | .nt _, _, ⟨p, x, e, h, h1⟩ => ⟨p, x, e, s.1 _ _ h, h1.ik s⟩
  | .bin _ _ _, _, ⟨p, x, y, e, h, h1, h2⟩ => ⟨p, x, y, e, s.1 _ _ h, h1.ik s, h2.ik s⟩
def Fm.norm : Fm → Fm
  | .has z => .has z
  | .tog zs => .tog (sortT (setT zs))
  | .alw => .alw
  | .nt f => .nt f.norm
  | .bin w f g => .bin w f.norm g.norm
theorem norm_dep : ∀ f : Fm, f.norm.dep = f.dep
  | .has _ => rfl
  | .tog _ => rfl
  | .alw => rfl
  | .nt f => by show f.norm.dep + 1 = f.dep + 1; rw [norm_dep f]
  | .bin _ f g => by show max f.norm.dep g.norm.dep + 1 = max f.dep g.dep + 1; rw [norm_dep f, norm_dep g]
/-- a node's own sense -/
def Fm.nsat (ks : List Str) : Fm → Bool
  | .has z => decide (z ∈ ks)
  | .tog zs => decide ((cntB (zs.map fun z => decide (z ∈ ks)) : Int) < 2)
  | .alw => true
  | .nt f => !f.nsat ks
  | .bin w f g => if w = "and" then (f.nsat ks && g.nsat ks) else if w = "or" then (f.nsat ks || g.nsat ks) else (!f.nsat ks || g.nsat ks)
theorem cnt_due {zs ks : List Str} : decide ((cntB (zs.map fun z => decide (z ∈ ks)) : Int) < 2) = (decide (zs.filter (fun z => decide (z ∈ ks)) = []) || decide (zs.filter (fun z => decide (z ∈ ks)) = zs)) := by
  have m1 : memB (zs.map fun z => decide (z ∈ ks)) true = decide (∃ z ∈ zs, z ∈ ks) := by
    unfold memB
    apply decide_eq_decide.mpr
    rw [List.mem_map]
    exact ⟨fun ⟨z, h1, h2⟩ => ⟨z, h1, of_decide_eq_true h2⟩, fun ⟨z, h1, h2⟩ => ⟨z, h1, decide_eq_true h2⟩⟩
  have m2 : memB (zs.map fun z => decide (z ∈ ks)) false = decide (∃ z ∈ zs, ¬ z ∈ ks) := by
    unfold memB
    apply decide_eq_decide.mpr
    rw [List.mem_map]
    exact ⟨fun ⟨z, h1, h2⟩ => ⟨z, h1, of_decide_eq_false h2⟩, fun ⟨z, h1, h2⟩ => ⟨z, h1, decide_eq_false h2⟩⟩
  have e1 : decide (zs.filter (fun z => decide (z ∈ ks)) = []) = !decide (∃ z ∈ zs, z ∈ ks) := by
    rw [← decide_not]
    apply decide_eq_decide.mpr
    rw [List.filter_eq_nil_iff]
    exact ⟨fun h ⟨z, h1, h2⟩ => h z h1 (decide_eq_true h2), fun h z h1 h2 => h ⟨z, h1, of_decide_eq_true h2⟩⟩
  have e2 : decide (zs.filter (fun z => decide (z ∈ ks)) = zs) = !decide (∃ z ∈ zs, ¬ z ∈ ks) := by
    rw [← decide_not]
    apply decide_eq_decide.mpr
    rw [List.filter_eq_self]
    exact ⟨fun h ⟨z, h1, h2⟩ => h2 (of_decide_eq_true (h z h1)), fun h z h1 => decide_eq_true (Decidable.byContradiction fun h2 => h ⟨z, h1, h2⟩)⟩
  rw [e1, e2]
  unfold cntB
  rw [m1, m2]
  cases decide (∃ z ∈ zs, z ∈ ks) <;> cases decide (∃ z ∈ zs, ¬ z ∈ ks) <;> rfl
theorem nsat_norm (ks : List Str) : ∀ f : Fm, f.norm.sat ks = f.nsat ks
  | .has _ => rfl
  | .tog zs => by
    show Fm.sat ks (.tog (sortT (setT zs))) = decide ((cntB (zs.map fun z => decide (z ∈ ks)) : Int) < 2)
    rw [tog_due, cnt_due]
  | .alw => rfl
  | .nt f => by show (!f.norm.sat ks) = !f.nsat ks; rw [nsat_norm ks f]
  | .bin w f g => by
    show (if w = "and" then (f.norm.sat ks && g.norm.sat ks) else if w = "or" then (f.norm.sat ks || g.norm.sat ks) else (!f.norm.sat ks || g.norm.sat ks)) = _
    rw [nsat_norm ks f, nsat_norm ks g]; rfl
theorem nsat_congr {ks js : List Str} (h : ∀ z, z ∈ ks ↔ z ∈ js) : ∀ f : Fm, f.nsat ks = f.nsat js
  | .has z => decide_eq_decide.mpr (h z)
  | .tog zs => by
    show decide ((cntB (zs.map fun z => decide (z ∈ ks)) : Int) < 2) = decide ((cntB (zs.map fun z => decide (z ∈ js)) : Int) < 2)
    have : (fun z => decide (z ∈ ks)) = fun z => decide (z ∈ js) := funext fun z => decide_eq_decide.mpr (h z)
    rw [this]
  | .alw => rfl
  | .nt f => by show (!f.nsat ks) = !f.nsat js; rw [nsat_congr h f]
  | .bin w f g => by
    show (if w = "and" then (f.nsat ks && g.nsat ks) else if w = "or" then (f.nsat ks || g.nsat ks) else (!f.nsat ks || g.nsat ks)) = _
    rw [nsat_congr h f, nsat_congr h g]; rfl
/-! ### _law_allows -/
def Fm.Ops : Fm → Prop
  | .nt f => f.Ops
  | .bin w f g => w ∈ opsS ∧ f.Ops ∧ g.Ops
  | .tog zs => zs.length ≤ 6
  | _ => True
def spNAllows (K : PySem.W.Frag) (n : Nat) : Sp := fun vs H Q _ => ∃ pp f v q ks, vs = [v, .ref q] ∧ Fm.dep f < n ∧ f.Ops ∧ NdAt pp H f v ∧ (SqL K H q (ks.map V.str) ∨ SqT K H q (ks.map V.str)) ∧ ∀ H', Same H H' → Q (.bl (f.nsat ks)) H'
theorem ok_law_allows (T : Txt K mg a d) : ∀ n, FnOk P w K mg base CX0 n a.law_allows d.law_allows ["_law_node", "_law_kept"] (spNAllows K n)
  | 0 => fn_none fun vs H Q E ⟨pp, f, v, q, ks, _, h, _⟩ => by omega
  | n + 1 => by
    have G_law_allows := ok_law_allows T n
    refine T.law_allows.ok sc_law_allows (fun vs H Q E h => ?_) (fun cdv A outer s H vs Q E hr h => ?_)
    · obtain ⟨pp, f, v, q, ks, rfl, _⟩ := h
      rfl
    · obtain ⟨pp, f, v, q, ks, rfl, hd, ho, hv, hq, k⟩ := h
      refine ⟨_, (pss_cons (ps_set (i := 2) sc_law_allows.nd rfl (Or.inl rfl) (pe_ix ix_tup (pv 0) pe_int (fun _ _ => rfl)))
  (pss_cons (ps_if (pt_cmpR op_eq (pv 2) pe_str (nomark _)) (pss_one (ps_ret (pe_cmpR op_in_seq (pe_ix ix_tup (pv 0) pe_int (fun _ _ => rfl)) (pv 1) (by rfl)))) pss_nil)
  (pss_cons (ps_if (pt_cmpR op_eq (pv 2) pe_str (nomark _)) (pss_one (ps_ret (pe_cmpR op_lt (pe_callB cr_lenB (by rfl) T.n_len PySem.boot_len (pa_cons (pe_callTy (cr_setBL rfl) (by rfl) T.n_set (by decide +kernel) (pa_cons (pe_lc (own := [("_law_record", 3)]) (tt := tYes) rfl sc_law_allows.nd (pi_list (pe_ix ix_tup (pv 0) pe_int (fun _ _ => rfl))) (blkOk_by (own := [("_law_record", 3)]) (N := ["_law_node", "_law_kept", "_law_word_here", "_law_record"]) (sc := defScope s_law_allows) (by decide +kernel)) (fun _ _ _ _ _ => (pg_name (i := 3) sc_law_allows.nd rfl (Or.inl rfl))) (fun _ _ _ _ _ => pts_nil) (fun _ _ _ _ _ => (pe_cmpR (op_inK (K := K) rfl) (pv 3) (pv 1) (by rfl)))) pa_nil)) pa_nil)) pe_int (nomark _)))) pss_nil)
  (pss_cons (ps_if (pt_cmpR op_eq (pv 2) pe_str (nomark _)) (pss_one (ps_ret pe_bl)) pss_nil)
  (pss_cons (ps_if (pt_cmpR op_eq (pv 2) pe_str (nomark _)) (pss_one (ps_ret (pe_not (pe_call G_law_allows (hr.mono (by omega)) (by rfl) T.g_law_allows T.law_allows.kp T.b_law_allows .nil pass0 (pa_cons (pe_ix ix_tup (pv 0) pe_int (fun _ _ => rfl)) (pa_cons (pv 1) pa_nil)))))) pss_nil)
  (pss_cons (ps_if (pt_cmpR op_eq (pv 2) pe_str (nomark _)) (pss_one (ps_ret (pe_and (pe_call G_law_allows (hr.mono (by omega)) (by rfl) T.g_law_allows T.law_allows.kp T.b_law_allows .nil pass0 (pa_cons (pe_ix ix_tup (pv 0) pe_int (fun _ _ => rfl)) (pa_cons (pv 1) pa_nil))) (pe_one (pe_call G_law_allows (hr.mono (by omega)) (by rfl) T.g_law_allows T.law_allows.kp T.b_law_allows .nil pass0 (pa_cons (pe_ix ix_tup (pv 0) pe_int (fun _ _ => rfl)) (pa_cons (pv 1) pa_nil))))))) pss_nil)
  (pss_cons (ps_if (pt_cmpR op_eq (pv 2) pe_str (nomark _)) (pss_one (ps_ret (pe_or (pe_call G_law_allows (hr.mono (by omega)) (by rfl) T.g_law_allows T.law_allows.kp T.b_law_allows .nil pass0 (pa_cons (pe_ix ix_tup (pv 0) pe_int (fun _ _ => rfl)) (pa_cons (pv 1) pa_nil))) (pe_one (pe_call G_law_allows (hr.mono (by omega)) (by rfl) T.g_law_allows T.law_allows.kp T.b_law_allows .nil pass0 (pa_cons (pe_ix ix_tup (pv 0) pe_int (fun _ _ => rfl)) (pa_cons (pv 1) pa_nil))))))) pss_nil)
  (pss_one (ps_ret (pe_or (pe_not (pe_call G_law_allows (hr.mono (by omega)) (by rfl) T.g_law_allows T.law_allows.kp T.b_law_allows .nil pass0 (pa_cons (pe_ix ix_tup (pv 0) pe_int (fun _ _ => rfl)) (pa_cons (pv 1) pa_nil)))) (pe_one (pe_call G_law_allows (hr.mono (by omega)) (by rfl) T.g_law_allows T.law_allows.kp T.b_law_allows .nil pass0 (pa_cons (pe_ix ix_tup (pv 0) pe_int (fun _ _ => rfl)) (pa_cons (pv 1) pa_nil)))))))))))))), ?_⟩
      dsimp only [cxOf]
      have fk := flat_strs (l := ks)
      cases f with
      | alw =>
        obtain ⟨p, rfl, hp⟩ := hv
        walk_at "rd"
        exact k H (Same.refl H)
      | has z =>
        obtain ⟨p, rfl, hp⟩ := hv
        walk_at "rd"
        rw [inV_strs]
        exact k H (Same.refl H)
      | tog zs =>
        obtain ⟨p, q2, rfl, hp, hz, _⟩ := hv
        have lz : zs.length ≤ 6 := ho
        walk_at "rd"
        refine ⟨⟨_, SqL.of hz⟩, ?_⟩
        intro S hS
        refine lc_list (xs := zs.map V.str) (fun i H' => Same H H' ∧ H' S = some (.lst (((zs.take i).map fun z => decide (z ∈ ks)).map V.bl))) ?_ ?_ ?_ ?_
        · exact ⟨(Same.refl H).new hS, upd_same⟩
        · rintro i H' _ ⟨s1, _⟩
          exact SqL.of (s1 _ _ hz)
        · rintro i v H' hv ⟨s1, hS'⟩
          rw [List.getElem?_map] at hv
          obtain ⟨z, hz', rfl⟩ : ∃ z, zs[i]? = some z ∧ v = .str z := by
            cases e : zs[i]? with
            | none => rw [e] at hv; cases hv
            | some z => rw [e] at hv; cases hv; exact ⟨z, rfl, rfl⟩
          have hq' := sq_same hq s1
          have hl : (((zs.take i).map fun z => decide (z ∈ ks)).map V.bl).length < sizeLine := by
            rw [List.length_map, List.length_map, List.length_take, sizeLine_eq]; omega
          walk_at "rd"
          rw [show (if false = true then !inV (V.str z) (ks.map V.str) else inV (V.str z) (ks.map V.str)) = inV (V.str z) (ks.map V.str) from rfl, inV_strs]
          refine ⟨s1.frsh hS, ?_⟩
          rw [upd_same, List.take_add_one, hz', List.map_append, List.map_append]; rfl
        · rintro H' ⟨s1, hS'⟩
          rw [List.length_map, List.take_length] at hS'
          walk_at "rd"
          intro q5 hq5
          have s5 := s1.new (o := PpSet.SetBO w q5 (memB (zs.map fun z => decide (z ∈ ks))) (cntB (zs.map fun z => decide (z ∈ ks)))) hq5
          have h5 := upd_same (H := H') (a := q5) (o := PpSet.SetBO w q5 (memB (zs.map fun z => decide (z ∈ ks))) (cntB (zs.map fun z => decide (z ∈ ks))))
          generalize upd H' q5 (PpSet.SetBO w q5 (memB (zs.map fun z => decide (z ∈ ks))) (cntB (zs.map fun z => decide (z ∈ ks)))) = H5 at s5 h5 ⊢
          have hc := cntB_le (xs := zs.map fun z => decide (z ∈ ks))
          refine ⟨q5, _, _, rfl, h5, by omega, ?_⟩
          walk_at "rd"
          exact k H5 s5
      | nt f =>
        obtain ⟨p, x, rfl, hp, hx⟩ := hv
        have hd' : f.dep < n := by
          have : f.dep + 1 < n + 1 := hd
          omega
        walk_at "rd"
        refine ⟨f, x, q, ks, rfl, hd', ho, hx, hq, fun H1 s1 => ?_⟩
        walk_at "rd"
        exact k H1 s1
      | bin w' f g =>
        obtain ⟨p, x, y, rfl, hp, hx, hy⟩ := hv
        have hd' : max f.dep g.dep + 1 < n + 1 := hd
        have hf : f.dep < n := by omega
        have hg : g.dep < n := by omega
        obtain ⟨o1, o2, o3⟩ := ho
        have o1 : w' = "and" ∨ w' = "or" ∨ w' = "needs" := by simpa [opsS] using o1
        rcases o1 with rfl | rfl | rfl
        · have ek : Fm.nsat ks (.bin "and" f g) = (f.nsat ks && g.nsat ks) := if_pos rfl
          rw [ek] at k
          walk_at "rd"
          refine ⟨f, x, q, ks, rfl, hf, o2, hx, hq, fun H1 s1 => ?_⟩
          have hp1 := s1 _ _ hp
          cases hb : f.nsat ks with
          | true =>
            rw [hb] at k
            walk_at "rd"
            exact ⟨g, y, q, ks, rfl, hg, o3, hy.ik s1.ik, sq_same hq s1, fun H2 s2 => k H2 (s1.trans s2)⟩
          | false =>
            rw [hb] at k
            walk_at "rd"
            exact k H1 s1
        · have ek : Fm.nsat ks (.bin "or" f g) = (f.nsat ks || g.nsat ks) := by
            show (if ("or" : Str) = "and" then _ else _) = _
            rw [if_neg (by decide +kernel)]
            exact if_pos rfl
          rw [ek] at k
          walk_at "rd"
          refine ⟨f, x, q, ks, rfl, hf, o2, hx, hq, fun H1 s1 => ?_⟩
          have hp1 := s1 _ _ hp
          cases hb : f.nsat ks with
          | true =>
            rw [hb] at k
            walk_at "rd"
            exact k H1 s1
          | false =>
            rw [hb] at k
            walk_at "rd"
            exact ⟨g, y, q, ks, rfl, hg, o3, hy.ik s1.ik, sq_same hq s1, fun H2 s2 => k H2 (s1.trans s2)⟩
        · have ek : Fm.nsat ks (.bin "needs" f g) = (!f.nsat ks || g.nsat ks) := by
            show (if ("needs" : Str) = "and" then _ else _) = _
            rw [if_neg (by decide +kernel), if_neg (by decide +kernel)]
          rw [ek] at k
          walk_at "rd"
          refine ⟨f, x, q, ks, rfl, hf, o2, hx, hq, fun H1 s1 => ?_⟩
          have hp1 := s1 _ _ hp
          cases hb : f.nsat ks with
          | false =>
            rw [hb] at k
            walk_at "rd"
            exact k H1 s1
          | true =>
            rw [hb] at k
            walk_at "rd"
            exact ⟨g, y, q, ks, rfl, hg, o3, hy.ik s1.ik, sq_same hq s1, fun H2 s2 => k H2 (s1.trans s2)⟩
/-! ### a drawn rule and its node -/
def Fm.raw : Fm → List Str
  | .has z => [z]
  | .tog zs => zs
  | .alw => []
  | .nt f => f.raw
  | .bin _ f g => f.raw ++ g.raw
theorem recs_mem : ∀ (f : Fm) (z : Str), z ∈ f.norm.recs ↔ z ∈ f.raw
  | .has y, z => by show z ∈ sortT (setT [y]) ↔ _; rw [sortT_mem, setT_mem]; rfl
  | .tog zs, z => by show z ∈ sortT (setT (sortT (setT zs))) ↔ _; rw [sortT_mem, setT_mem, sortT_mem, setT_mem]; rfl
  | .alw, z => by show z ∈ sortT (setT []) ↔ _; rw [sortT_mem, setT_mem]; rfl
  | .nt f, z => by show z ∈ sortT (setT f.norm.recs) ↔ _; rw [sortT_mem, setT_mem]; exact recs_mem f z
  | .bin _ f g, z => by
    show z ∈ sortT (setT (f.norm.recs ++ g.norm.recs)) ↔ z ∈ f.raw ++ g.raw
    rw [sortT_mem, setT_mem, List.mem_append, List.mem_append, recs_mem f z, recs_mem g z]
theorem nd_sub_len : ∀ {l m : List Str}, l.Nodup → (∀ z ∈ l, z ∈ m) → l.length ≤ m.length
  | [], _, _, _ => Nat.zero_le _
  | x :: l, m, h, s => by
    have hx := s x List.mem_cons_self
    obtain ⟨hn, hl⟩ := List.nodup_cons.mp h
    have := nd_sub_len (l := l) (m := m.erase x) hl fun z hz => (List.mem_erase_of_ne (show z ≠ x from fun e => hn (e ▸ hz))).mpr (s z (List.mem_cons_of_mem _ hz))
    rw [List.length_erase_of_mem hx] at this
    have : 0 < m.length := List.length_pos_of_mem hx
    rw [List.length_cons]; omega
def bnd : Nat → Nat
  | 0 => 10
  | m + 1 => 10 + 2 * bnd m
theorem bnd_ge : ∀ n, 10 ≤ bnd n
  | 0 => Nat.le_refl 10
  | n + 1 => by show 10 ≤ 10 + 2 * bnd n; omega
def spBuilt (a : Ad) (m : Nat) : Sp := fun vs H Q _ => ∃ pp qr o c ws dv, vs = [.ref pp, .ref qr, .int dv] ∧ dv = 5 - (m : Int) ∧ 0 < m ∧ m ≤ 5 ∧ H pp = some o ∧ PoolO o c ∧ c + bnd m < 2 ^ 30 ∧ H qr = some (.lst (ws.map V.str)) ∧ pp ≠ qr ∧ ws ≠ [] ∧ ws.length ≤ 6 ∧ (∀ z ∈ ws, IsWord z) ∧
  ∀ H' o' t ru nd f, Kp (fun b => b = pp) H H' → H' pp = some o' → PoolO o' (c + bnd m) → H' t = some (.tup [ru, nd]) → RuAt a H' (Fm.norm f) ru → NdAt pp H' f nd → f.dep < m → f.Ops → (∀ z ∈ f.raw, z ∈ ws) → Q (.ref t) H'
theorem at_str {xs : List Str} {r : Int} (h0 : 0 ≤ r) (h1 : r < ((xs.map V.str).length : Int)) : ∃ z, atI (xs.map V.str) r = some (.str z) ∧ z ∈ xs := by
  obtain ⟨n, rfl⟩ : ∃ n : Nat, r = n := ⟨r.toNat, by omega⟩
  have hi : n < xs.length := by rw [List.length_map] at h1; omega
  exact ⟨xs[n], atI_nat (by rw [List.getElem?_map, List.getElem?_eq_getElem hi]; rfl), List.getElem_mem hi⟩
theorem spTog_words {a : Ad} {ws : List Str} {H : Hp} {Q : VK} {E : XK} (hw : ∀ z ∈ ws, IsWord z) (hl : ws.length ≤ 6) (k : outR a (.tog (sortT (setT ws))) H Q) : spTog a (ws.map V.str) H Q E := by
  refine ⟨fun x hx => ?_, by rw [List.length_map]; omega, fun p hp => ?_⟩
  · obtain ⟨z, hz, rfl⟩ := List.mem_map.mp hx
    exact .str z (by rw [← len_toList]; have := (hw z hz).hi; omega) (fun c hc => by have := (hw z hz).al c hc; omega)
  · unfold outT
    rw [badV_no (fun x hx => by
      obtain ⟨z, hz, rfl⟩ := List.mem_map.mp hx
      exact (hw z hz).ok)]
    intro zs e wz
    have e : zs = ws := (List.map_inj_right (fun _ _ h => V.str.inj h)).mp e.symm
    subst e
    have := setT_len (xs := zs)
    rw [if_neg (by omega)]
    exact fun H' r s h => k H' r (((Same.refl H).new hp).trans s) h
theorem PoolO.lst {o : HO} {c : Nat} (h : PoolO o c) : ∃ xs, o = .lst xs := by
  obtain ⟨x, y, z, e, _⟩ := h
  exact ⟨_, e⟩
theorem im_pool {H H' : Hp} {p : Addr} {o : HO} {c : Nat} (hp : H p = some o) (ho : PoolO o c) (k : Kp (fun b => b = p) H H') : Im H H' :=
  k.im fun b e => by
    subst e
    obtain ⟨xs, rfl⟩ := ho.lst
    exact ⟨xs, hp⟩
theorem dnd_and : PySem.dunder (Operator.info .BitAnd).2 = "__and__" := by decide +kernel
theorem dnd_or : PySem.dunder (Operator.info .BitOr).2 = "__or__" := by decide +kernel
theorem dnd_rsh : PySem.dunder (Operator.info .RShift).2 = "__rshift__" := by decide +kernel
theorem ok_law_built (T : Txt K mg a d) : ∀ n, FnOk P w K mg base CX0 (9 + n) a.law_built d.law_built ["_law_pool_here", "_law_records", "_law_depth"] (spBuilt a n)
  | 0 => fn_none fun vs H Q E ⟨pp, qr, o, c, ws, dv, _, _, h, _⟩ => by omega
  | n + 1 => by
    have G_law_built := ok_law_built T n
    have G_law_draw : FnOk P w K mg base CX0 1 a.law_draw d.law_draw ["_law_pool_here", "_law_many"] spDraw := ok_law_draw T
    have R_Rule_together := ok_Rule_together (w := w) (base := base) T
    have R_Rule_always := r_Rule_always (w := w) (base := base) T
    have G_Rule_has : FnOk P w K mg base (L2.CX P w) 3 a.Rule_has d.Rule_has ["record"] (spRHas a) := ok_Rule_has T
    have G_RuleU_invertU : FnOk P w K mg base CX0 3 a.RuleU_invertU d.RuleU_invertU ["self"] (spInv a) := ok_RuleU_invertU T
    have G_RuleU_andU : FnOk P w K mg base (L2.CX P w) 8 a.RuleU_andU d.RuleU_andU ["self", "other"] (spBin a 5 "and") := ok_RuleU_andU T 5
    have G_RuleU_orU : FnOk P w K mg base (L2.CX P w) 8 a.RuleU_orU d.RuleU_orU ["self", "other"] (spBin a 5 "or") := ok_RuleU_orU T 5
    have G_RuleU_rshiftU : FnOk P w K mg base (L2.CX P w) 8 a.RuleU_rshiftU d.RuleU_rshiftU ["self", "other"] (spBin a 5 "needs") := ok_RuleU_rshiftU T 5
    refine T.law_built.ok (k := 9 + n) sc_law_built (fun vs H Q E h => ?_) (fun cdv A outer s H vs Q E hr h => ?_)
    · obtain ⟨pp, qr, o, c, ws, dv, rfl, _⟩ := h
      rfl
    · obtain ⟨pp, qr, o, c, ws, dv, rfl, hdv, _, hn5, hp, ho, hc, hw, npr, wne, wl, ww, k⟩ := h
      refine ⟨_, (pss_cons (ps_set (i := 3) sc_law_built.nd rfl (Or.inl rfl) (pe_ifExp (pt_cmpR op_lt (pv 2) pe_int (nomark _)) (pe_call G_law_draw (hr.mono (by omega)) (by rfl) T.g_law_draw T.law_draw.kp T.b_law_draw .nil pass0 (pa_cons (pv 0) (pa_cons pe_int pa_nil))) (pe_call G_law_draw (hr.mono (by omega)) (by rfl) T.g_law_draw T.law_draw.kp T.b_law_draw .nil pass0 (pa_cons (pv 0) (pa_cons pe_int pa_nil)))))
  (pss_cons (ps_if (pt_cmpR op_eq (pv 3) pe_int (nomark _)) (pss_cons (ps_setLc (i := 4) (own := [("_law_k", 10)]) (tt := tYes) rfl sc_law_built.nd rfl rfl (sw_true rfl rfl rfl (by decide +kernel)) (pi_range1 (by rfl) T.n_range (pa_cons (pe_call G_law_draw (hr.mono (by omega)) (by rfl) T.g_law_draw T.law_draw.kp T.b_law_draw .nil pass0 (pa_cons (pv 0) (pa_cons pe_int pa_nil))) pa_nil)) (blkOk_by (own := [("_law_k", 10)]) (N := ["_law_pool_here", "_law_records", "_law_depth", "_law_sort", "_law_some", "_law_record", "_law_one", "_law_first", "_law_other", "_law_second", "_law_k"]) (sc := defScope s_law_built) (by decide +kernel)) (fun _ _ _ _ _ => (pg_name (i := 10) sc_law_built.nd rfl (Or.inl rfl))) (fun _ _ _ _ _ => pts_nil) (fun _ _ _ _ _ => (pe_ix (ix_listK (K := K) rfl) (pv 1) (pe_call G_law_draw (hr.mono (by omega)) (by rfl) T.g_law_draw T.law_draw.kp T.b_law_draw .nil pass0 (pa_cons (pv 0) (pa_cons (pe_callB (call_len_seqK (K := K) rfl) (by rfl) T.n_len PySem.boot_len (pa_cons (pv 1) pa_nil)) pa_nil))) (fun _ _ => rfl))))
  (pss_cons (ps_if (pt_cmpR op_eq (pe_callB call_len_seq (by rfl) T.n_len PySem.boot_len (pa_cons (pv 4) pa_nil)) pe_int (nomark _)) (pss_one (ps_ret (pe_tup (pa_cons (pe_smethR0 (pe_glob (v := .ref a.Rule) (by rfl) T.g_Rule rfl) T.r_Rule T.s_Rule_together R_Rule_together (hr.mono (by omega)) T.Rule_together.kp passL) (pa_cons (pe_tup (pa_cons pe_str (pa_cons (pe_lst pa_nil) pa_nil))) pa_nil))))) pss_nil)
  (pss_cons (ps_if (pt_cmpR op_eq (pe_callB call_len_seq (by rfl) T.n_len PySem.boot_len (pa_cons (pv 4) pa_nil)) pe_int (nomark _)) (pss_one (ps_ret (pe_tup (pa_cons (pe_smethR (pe_glob (v := .ref a.Rule) (by rfl) T.g_Rule rfl) T.r_Rule T.s_Rule_together R_Rule_together (hr.mono (by omega)) T.Rule_together.kp passL (pa_cons (pe_ix ix_list (pv 4) pe_int (fun _ _ => rfl)) pa_nil)) (pa_cons (pe_tup (pa_cons pe_str (pa_cons (pv 4) pa_nil))) pa_nil))))) pss_nil)
  (pss_cons (ps_if (pt_cmpR op_eq (pe_callB call_len_seq (by rfl) T.n_len PySem.boot_len (pa_cons (pv 4) pa_nil)) pe_int (nomark _)) (pss_one (ps_ret (pe_tup (pa_cons (pe_smethR (pe_glob (v := .ref a.Rule) (by rfl) T.g_Rule rfl) T.r_Rule T.s_Rule_together R_Rule_together (hr.mono (by omega)) T.Rule_together.kp passL (pa_cons (pe_ix ix_list (pv 4) pe_int (fun _ _ => rfl)) (pa_cons (pe_ix ix_list (pv 4) pe_int (fun _ _ => rfl)) pa_nil))) (pa_cons (pe_tup (pa_cons pe_str (pa_cons (pv 4) pa_nil))) pa_nil))))) pss_nil)
  (pss_one (ps_ret (pe_tup (pa_cons (pe_smethR (pe_glob (v := .ref a.Rule) (by rfl) T.g_Rule rfl) T.r_Rule T.s_Rule_together R_Rule_together (hr.mono (by omega)) T.Rule_together.kp passL (pa_cons (pe_ix ix_list (pv 4) pe_int (fun _ _ => rfl)) (pa_cons (pe_ix ix_list (pv 4) pe_int (fun _ _ => rfl)) (pa_cons (pe_ix ix_list (pv 4) pe_int (fun _ _ => rfl)) pa_nil)))) (pa_cons (pe_tup (pa_cons pe_str (pa_cons (pe_slice sl_list (pv 4) po_none (po_some pe_int)) pa_nil))) pa_nil))))))))) pss_nil)
  (pss_cons (ps_if (PW.pt (pw_and (pt_cmpR op_eq (pv 3) pe_int (nomark _)) (pw_and1 (pt_cmpR op_eq (pe_call G_law_draw (hr.mono (by omega)) (by rfl) T.g_law_draw T.law_draw.kp T.b_law_draw .nil pass0 (pa_cons (pv 0) (pa_cons pe_int pa_nil))) pe_int (nomark _))))) (pss_one (ps_ret (pe_tup (pa_cons (pe_smethR0 (pe_glob (v := .ref a.Rule) (by rfl) T.g_Rule rfl) T.r_Rule T.s_Rule_always R_Rule_always (hr.mono (by omega)) T.Rule_always.kp pass0) (pa_cons (pe_tup (pa_cons pe_str pa_nil)) pa_nil))))) pss_nil)
  (pss_cons (ps_if (pt_cmpR op_lt (pv 3) pe_int (nomark _)) (pss_cons (ps_set (i := 5) sc_law_built.nd rfl (Or.inl rfl) (pe_ix ix_list (pv 1) (pe_call G_law_draw (hr.mono (by omega)) (by rfl) T.g_law_draw T.law_draw.kp T.b_law_draw .nil pass0 (pa_cons (pv 0) (pa_cons (pe_callB call_len_seq (by rfl) T.n_len PySem.boot_len (pa_cons (pv 1) pa_nil)) pa_nil))) (fun _ _ => rfl)))
  (pss_one (ps_ret (pe_tup (pa_cons (pe_smeth (pe_glob (v := .ref a.Rule) (by rfl) T.g_Rule rfl) T.r_Rule T.s_Rule_has G_Rule_has (hr.mono (by omega)) T.Rule_has.kp T.b_Rule_has .nil passL (pa_cons (pv 5) pa_nil)) (pa_cons (pe_tup (pa_cons pe_str (pa_cons (pv 5) pa_nil))) pa_nil)))))) pss_nil)
  (pss_cons (ps_asg (pe_call G_law_built (hr.mono (by omega)) (by rfl) T.g_law_built T.law_built.kp T.b_law_built .nil pass0 (pa_cons (pv 0) (pa_cons (pv 1) (pa_cons (pe_op op_add (pv 2) pe_int) pa_nil)))) (pg_tup rfl (pgs_cons (pg_name (i := 6) sc_law_built.nd rfl (Or.inl rfl)) (pgs_cons (pg_name (i := 7) sc_law_built.nd rfl (Or.inl rfl)) pgs_nil))))
  (pss_cons (ps_if (pt_cmpR op_eq (pv 3) pe_int (nomark _)) (pss_one (ps_ret (pe_tup (pa_cons (pe_un (un_own (T.m_RuleU_invertU.at_) (T.m_RuleU_invertU.fn) G_RuleU_invertU (hr.mono (by omega)) T.b_RuleU_invertU pass0) (pv 6)) (pa_cons (pe_tup (pa_cons pe_str (pa_cons (pv 7) pa_nil))) pa_nil))))) pss_nil)
  (pss_cons (ps_asg (pe_call G_law_built (hr.mono (by omega)) (by rfl) T.g_law_built T.law_built.kp T.b_law_built .nil pass0 (pa_cons (pv 0) (pa_cons (pv 1) (pa_cons (pe_op op_add (pv 2) pe_int) pa_nil)))) (pg_tup rfl (pgs_cons (pg_name (i := 8) sc_law_built.nd rfl (Or.inl rfl)) (pgs_cons (pg_name (i := 9) sc_law_built.nd rfl (Or.inl rfl)) pgs_nil))))
  (pss_cons (ps_if (pt_cmpR op_eq (pv 3) pe_int (nomark _)) (pss_one (ps_ret (pe_tup (pa_cons (pe_op (op_own (T.m_RuleU_andU.at_) (T.m_RuleU_andU.fn) T.sf_Rule G_RuleU_andU (hr.mono (by omega)) T.b_RuleU_andU passL) (pv 6) (pv 8)) (pa_cons (pe_tup (pa_cons pe_str (pa_cons (pv 7) (pa_cons (pv 9) pa_nil)))) pa_nil))))) pss_nil)
  (pss_cons (ps_if (pt_cmpR op_eq (pv 3) pe_int (nomark _)) (pss_one (ps_ret (pe_tup (pa_cons (pe_op (op_own (T.m_RuleU_orU.at_) (T.m_RuleU_orU.fn) T.sf_Rule G_RuleU_orU (hr.mono (by omega)) T.b_RuleU_orU passL) (pv 6) (pv 8)) (pa_cons (pe_tup (pa_cons pe_str (pa_cons (pv 7) (pa_cons (pv 9) pa_nil)))) pa_nil))))) pss_nil)
  (pss_one (ps_ret (pe_tup (pa_cons (pe_op (op_own (T.m_RuleU_rshiftU.at_) (T.m_RuleU_rshiftU.fn) T.sf_Rule G_RuleU_rshiftU (hr.mono (by omega)) T.b_RuleU_rshiftU passL) (pv 6) (pv 8)) (pa_cons (pe_tup (pa_cons pe_str (pa_cons (pv 7) (pa_cons (pv 9) pa_nil)))) pa_nil)))))))))))))), ?_⟩
      dsimp only [cxOf]
      have b1 : bnd (n + 1) = 10 + 2 * bnd n := rfl
      have b0 := bnd_ge n
      have l0 : 0 < (ws.map V.str).length := by
        rw [List.length_map]
        cases ws with
        | nil => exact absurd rfl wne
        | cons _ _ => simp
      have l1 : (ws.map V.str).length ≤ 6 := by rw [List.length_map]; exact wl
      walk_at "rd"
      refine ite2 (fun c0 => ?_) (fun c0 => ?_)
      all_goals
        walk_at "rd"
        intro r1 o1 r10 r11 h1
        have r1n : n = 0 → r1 < 3 := fun e => by
          first
            | omega
            | (have := of_decide_eq_true c0; omega)
        have r19 : r1 < 9 := by omega
        clear r11 c0
        have kp1 : Kp (fun b => b = pp) H (upd H pp o1) := Kp.refl.set1
        have hp1 := upd_same (H := H) (a := pp) (o := o1)
        have hw1 := upd_oth (o := o1) (Ne.symm npr) hw
        generalize upd H pp o1 = H1 at kp1 hp1 hw1 ⊢
        walk_at "rd"
        refine ite2 (fun c1 => ?_) (fun c1 => ?_)
        · walk_at "rd"
          intro r2 o2 r20 r21 h2
          have kp2 := kp1.set1 (o := o2)
          have hp2 := upd_same (H := H1) (a := pp) (o := o2)
          have hw2 := upd_oth (o := o2) (Ne.symm npr) hw1
          generalize upd H1 pp o2 = H2 at kp2 hp2 hw2 ⊢
          walk_at "rd"
          intro S hS
          have nS : S ≠ pp := Ne.symm (ne_of_none hp2 hS)
          have fS : H S = none := by
            cases e : H S with
            | none => rfl
            | some u => rw [kp2 _ _ e nS] at hS; cases hS
          refine lc_range (fun i H' => i ≤ 4 ∧ ∃ (o' : HO) (ks : List Str), ks.length = i ∧ (∀ z ∈ ks, z ∈ ws) ∧ Kp (fun b => b = pp) H H' ∧ H' pp = some o' ∧ PoolO o' (c + 2 + i) ∧ H' qr = some (.lst (ws.map V.str)) ∧ H' S = some (.lst (ks.map V.str))) ?_ ?_ ?_
          · exact ⟨by omega, o2, [], rfl, (fun z hz => nomatch hz), kp2.new hS, upd_old hp2 hS, h2, upd_old hw2 hS, upd_same⟩
          · rintro i H' hi ⟨i8, o', ks, e1, e2, e3, e4, e5, e6, e7⟩
            have hi8 : i < 4 := by omega
            refine ⟨rfl, ?_⟩
            walk_at "rd"
            intro r3 o3 r30 r31 h3
            obtain ⟨z, a3, m3⟩ := at_str r30 r31
            have hw3 := upd_oth (o := o3) (Ne.symm npr) e6
            have hS3 := upd_oth (o := o3) nS e7
            have hp3 := upd_same (H := H') (a := pp) (o := o3)
            have kp3 := e3.set1 (o := o3)
            generalize upd H' pp o3 = H3 at hw3 hS3 hp3 kp3 ⊢
            have lk : (ks.map V.str).length < sizeLine := by rw [List.length_map, sizeLine_eq]; omega
            refine ⟨_, _, _, _, rfl, rfl, SqL.of hw3, a3, _, hS3, lk, ?_⟩
            refine ⟨by omega, o3, ks ++ [z], by rw [List.length_append, e1]; rfl, ?_, kp3.fresh fS, upd_oth (Ne.symm nS) hp3, h3, upd_oth ?_ hw3, by rw [upd_same, List.map_append]; rfl⟩
            · intro y hy
              rcases List.mem_append.mp hy with hy | hy
              · exact e2 y hy
              · exact List.mem_singleton.mp hy ▸ m3
            · exact ne_of_none hw fS
          · rintro H3 ⟨i8, o3, ks, e1, e2, kp3, hp3, h3, hw3, hS3⟩
            have h3 := h3.mono (show _ ≤ c + bnd (n + 1) by omega)
            have lk : ks.length ≤ 4 := by omega
            clear e1 h1 h2 hp1 hw1 kp1 hp2 hw2 kp2 hS
            have fin : ∀ (zs : List Str) (q : Addr) (H4 H5 : Hp) (ru : V), Same H3 H4 → RuAt a H4 (Fm.tog (sortT (setT zs))) ru → Same H4 H5 → H5 q = some (.lst (zs.map V.str)) → q ≠ pp → zs.length ≤ 4 → (∀ z ∈ zs, z ∈ ws) → ∀ t1, H5 t1 = none → ∀ t2, upd H5 t1 (.tup [.str "together", .ref q]) t2 = none → Q (.ref t2) (upd (upd H5 t1 (.tup [.str "together", .ref q])) t2 (.tup [ru, .ref t1])) := fun zs q H4 H5 ru s4 hru s5 hq nq lz sub t1 ht1 t2 ht2 => by
              have sA : Same H5 (upd (upd H5 t1 (.tup [.str "together", .ref q])) t2 (.tup [ru, .ref t1])) := ((Same.refl H5).new ht1).new ht2
              have sB := (s4.trans s5).trans sA
              refine k _ o3 t2 ru (.ref t1) (.tog zs) (kp3.trans (.of_same sB)) (sB _ _ hp3) h3 upd_same (hru.im (s5.trans sA).im) ⟨t1, q, rfl, upd_old upd_same ht2, sA _ _ hq, nq⟩ ?_ (show zs.length ≤ 6 by omega) sub
              show 0 < n + 1
              omega
            have wz : ∀ z ∈ ks, IsWord z := fun z hz => ww z (e2 z hz)
            match ks, lk with
            | [], lk =>
              have tg : ∀ Q' : VK, outR a (.tog (sortT (setT ([] : List Str)))) H3 Q' → spTog a (List.map V.str ([] : List Str)) H3 Q' E0 := fun Q' k' => spTog_words (fun z hz => nomatch hz) (by simp) k'
              walk_at "rd"
              refine tg _ fun H4 ru s4 hru => ?_
              walk_at "rd"
              intro q5 hq5
              have n5 : q5 ≠ pp := Ne.symm (ne_of_none (s4 _ _ hp3) hq5)
              walk_at "rd"
              intro t1 ht1
              walk_at "rd"
              intro t2 ht2
              exact fin [] q5 H4 _ ru s4 hru ((Same.refl H4).new hq5) upd_same n5 (by simp) (fun z hz => nomatch hz) t1 ht1 t2 ht2
            | [x], lk =>
              have tg : ∀ Q' : VK, outR a (.tog (sortT (setT [x]))) H3 Q' → spTog a (List.map V.str [x]) H3 Q' E0 := fun Q' k' => spTog_words (fun z hz => wz z (by simp only [List.mem_cons, List.not_mem_nil, or_false] at hz ⊢; rcases hz with rfl <;> simp)) (by simp) k'
              walk_at "rd"
              refine tg _ fun H4 ru s4 hru => ?_
              walk_at "rd"
              intro t1 ht1
              walk_at "rd"
              intro t2 ht2
              exact fin [x] S H4 H4 ru s4 hru (Same.refl H4) (s4 _ _ hS3) nS (by simp) (fun z hz => e2 z (by simp only [List.mem_cons, List.not_mem_nil, or_false] at hz ⊢; rcases hz with rfl <;> simp)) t1 ht1 t2 ht2
            | [x, y], lk =>
              have tg : ∀ Q' : VK, outR a (.tog (sortT (setT [x, y]))) H3 Q' → spTog a (List.map V.str [x, y]) H3 Q' E0 := fun Q' k' => spTog_words (fun z hz => wz z (by simp only [List.mem_cons, List.not_mem_nil, or_false] at hz ⊢; rcases hz with rfl | rfl <;> simp)) (by simp) k'
              walk_at "rd"
              refine tg _ fun H4 ru s4 hru => ?_
              walk_at "rd"
              intro t1 ht1
              walk_at "rd"
              intro t2 ht2
              exact fin [x, y] S H4 H4 ru s4 hru (Same.refl H4) (s4 _ _ hS3) nS (by simp) (fun z hz => e2 z (by simp only [List.mem_cons, List.not_mem_nil, or_false] at hz ⊢; rcases hz with rfl | rfl <;> simp)) t1 ht1 t2 ht2
            | [x, y, z], lk =>
              have tg : ∀ Q' : VK, outR a (.tog (sortT (setT [x, y, z]))) H3 Q' → spTog a (List.map V.str [x, y, z]) H3 Q' E0 := fun Q' k' => spTog_words (fun z hz => wz z (by simp only [List.mem_cons, List.not_mem_nil, or_false] at hz ⊢; rcases hz with rfl | rfl | rfl <;> simp)) (by simp) k'
              walk_at "rd"
              refine tg _ fun H4 ru s4 hru => ?_
              have hS4 := s4 _ _ hS3
              walk_at "rd"
              intro q5 hq5
              have n5 : q5 ≠ pp := Ne.symm (ne_of_none (s4 _ _ hp3) hq5)
              rw [show cutV (List.map V.str [x, y, z]) none (some 3) = List.map V.str [x, y, z] from rfl]
              walk_at "rd"
              intro t1 ht1
              walk_at "rd"
              intro t2 ht2
              exact fin [x, y, z] q5 H4 _ ru s4 hru ((Same.refl H4).new hq5) upd_same n5 (by simp) (fun z hz => e2 z (by simp only [List.mem_cons, List.not_mem_nil, or_false] at hz ⊢; rcases hz with rfl | rfl | rfl <;> simp)) t1 ht1 t2 ht2
            | [x, y, z, u], lk =>
              have tg : ∀ Q' : VK, outR a (.tog (sortT (setT [x, y, z]))) H3 Q' → spTog a (List.map V.str [x, y, z]) H3 Q' E0 := fun Q' k' => spTog_words (fun z hz => wz z (by simp only [List.mem_cons, List.not_mem_nil, or_false] at hz ⊢; rcases hz with rfl | rfl | rfl <;> simp)) (by simp) k'
              walk_at "rd"
              refine tg _ fun H4 ru s4 hru => ?_
              have hS4 := s4 _ _ hS3
              walk_at "rd"
              intro q5 hq5
              have n5 : q5 ≠ pp := Ne.symm (ne_of_none (s4 _ _ hp3) hq5)
              rw [show cutV (List.map V.str [x, y, z, u]) none (some 3) = List.map V.str [x, y, z] from rfl]
              walk_at "rd"
              intro t1 ht1
              walk_at "rd"
              intro t2 ht2
              exact fin [x, y, z] q5 H4 _ ru s4 hru ((Same.refl H4).new hq5) upd_same n5 (by simp) (fun z hz => e2 z (by simp only [List.mem_cons, List.not_mem_nil, or_false] at hz ⊢; rcases hz with rfl | rfl | rfl <;> simp)) t1 ht1 t2 ht2
        · walk_at "rd"
          refine ite2 (fun c2 => ?_) (fun c2 => ?_)
          · walk_at "rd"
            intro r4 o4 r40 r41 h4
            have kp4 := kp1.set1 (o := o4)
            have hp4 := upd_same (H := H1) (a := pp) (o := o4)
            have hw4 := upd_oth (o := o4) (Ne.symm npr) hw1
            generalize upd H1 pp o4 = H4 at kp4 hp4 hw4 ⊢
            have h4 := h4.mono (show _ ≤ c + 2 by omega)
            clear kp1 hp1 hw1
            walk_at "rd"
            refine ite2 (fun c3 => ?_) (fun c3 => ?_)
            · walk_at "rd"
              intro H5 ru s5 hru
              walk_at "rd"
              intro t1 ht1
              walk_at "rd"
              intro t2 ht2
              have sA : Same H4 (upd (upd H5 t1 (.tup [.str "always"])) t2 (.tup [ru, .ref t1])) := (s5.new ht1).new ht2
              refine k _ o4 t2 ru (.ref t1) .alw (kp4.trans (.of_same sA)) (sA _ _ hp4) (h4.mono (by omega)) upd_same (hru.im (((Same.refl H5).new ht1).new ht2).im) ⟨t1, rfl, upd_old upd_same ht2⟩ (show 0 < n + 1 by omega) trivial (fun y hy => nomatch hy)
            · have c4 : r1 < 4 := by
                have := V.int.inj (of_decide_eq_true c2)
                omega
              walk_at "rd"
              rw [decide_eq_true c4]
              refine iteT ?_
              walk_at "rd"
              intro r5 o5 r50 r51 h5
              obtain ⟨z, a5, m5⟩ := at_str r50 r51
              have kp5 := kp4.set1 (o := o5)
              have hp5 := upd_same (H := H4) (a := pp) (o := o5)
              have hw5 := upd_oth (o := o5) (Ne.symm npr) hw4
              generalize upd H4 pp o5 = H5 at kp5 hp5 hw5 ⊢
              have wz := ww z m5
              have t0 : Thing H5 (.str z) := .str z (by rw [← len_toList]; have := wz.hi; omega) (fun c hc => by have := wz.al c hc; omega)
              walk_at "rd"
              show if wordS z = true then _ else _
              rw [if_pos wz.ok]
              intro H6 ru s6 hru
              walk_at "rd"
              intro t1 ht1
              walk_at "rd"
              intro t2 ht2
              have sA : Same H5 (upd (upd H6 t1 (.tup [.str "has", .str z])) t2 (.tup [ru, .ref t1])) := (s6.new ht1).new ht2
              refine k _ o5 t2 ru (.ref t1) (.has z) (kp5.trans (.of_same sA)) (sA _ _ hp5) (h5.mono (by omega)) upd_same (hru.im (((Same.refl H6).new ht1).new ht2).im) ⟨t1, rfl, upd_old upd_same ht2⟩ (show 0 < n + 1 by omega) trivial (fun y hy => List.mem_singleton.mp hy ▸ m5)

          · have kp4 := kp1
            have hp4 := hp1
            have hw4 := hw1
            have h4 := h1.mono (show _ ≤ c + 2 by omega)
            generalize H1 = H4 at kp4 hp4 hw4 ⊢
            clear kp1 hp1 hw1
            walk_at "rd"
            refine ite2 (fun c3 => ?_) (fun c3 => ?_)
            ·
              walk_at "rd"
              intro r5 o5 r50 r51 h5
              obtain ⟨z, a5, m5⟩ := at_str r50 r51
              have kp5 := kp4.set1 (o := o5)
              have hp5 := upd_same (H := H4) (a := pp) (o := o5)
              have hw5 := upd_oth (o := o5) (Ne.symm npr) hw4
              generalize upd H4 pp o5 = H5 at kp5 hp5 hw5 ⊢
              have wz := ww z m5
              have t0 : Thing H5 (.str z) := .str z (by rw [← len_toList]; have := wz.hi; omega) (fun c hc => by have := wz.al c hc; omega)
              walk_at "rd"
              show if wordS z = true then _ else _
              rw [if_pos wz.ok]
              intro H6 ru s6 hru
              walk_at "rd"
              intro t1 ht1
              walk_at "rd"
              intro t2 ht2
              have sA : Same H5 (upd (upd H6 t1 (.tup [.str "has", .str z])) t2 (.tup [ru, .ref t1])) := (s6.new ht1).new ht2
              refine k _ o5 t2 ru (.ref t1) (.has z) (kp5.trans (.of_same sA)) (sA _ _ hp5) (h5.mono (by omega)) upd_same (hru.im (((Same.refl H6).new ht1).new ht2).im) ⟨t1, rfl, upd_old upd_same ht2⟩ (show 0 < n + 1 by omega) trivial (fun y hy => List.mem_singleton.mp hy ▸ m5)

            · 
              have c4 : ¬ r1 < 4 := fun q => c3 (decide_eq_true q)
              have hn : 0 < n := by
                rcases Nat.eq_zero_or_pos n with e | e
                · have := r1n e
                  omega
                · exact e
              walk_at "rd"
              intro H5 o5 t5 ru5 nd5 f5 kp5 hp5 h5 ht5 hru5 hnd5 hd5 ho5 hs5
              have hw5 := kp5 _ _ hw4 (Ne.symm npr)
              obtain ⟨p5, x5, y5, e5, hq5, _⟩ := id hru5
              subst e5
              walk_at "rd"
              refine ite2 (fun d1 => ?_) (fun d1 => ?_)
              · walk_at "rd"
                refine ⟨f5.norm, _, rfl, hru5, fun H6 ru s6 hru => ?_⟩
                walk_at "rd"
                intro t1 ht1
                walk_at "rd"
                intro t2 ht2
                have sA : Same H5 (upd (upd H6 t1 (.tup [.str "not", nd5])) t2 (.tup [ru, .ref t1])) := (s6.new ht1).new ht2
                refine k _ o5 t2 ru (.ref t1) (.nt f5) ((kp4.trans kp5).trans (.of_same sA)) (sA _ _ hp5) (h5.mono (by omega)) upd_same (hru.im (((Same.refl H6).new ht1).new ht2).im) ⟨t1, nd5, rfl, upd_old upd_same ht2, hnd5.ik sA.ik⟩ (show f5.dep + 1 < n + 1 by omega) ho5 hs5
              · walk_at "rd"
                intro H6 o6 t6 ru6 nd6 f6 kp6 hp6 h6 ht6 hru6 hnd6 hd6 ho6 hs6
                have im6 := im_pool hp5 h5 kp6
                have hru5 := hru5.im im6
                have hnd5 := hnd5.ik (ik_pool hp5 h5 kp6)
                have hq5 := im6.2 _ _ _ _ hq5
                obtain ⟨p6, x6, y6, e6, hq6, _⟩ := id hru6
                subst e6
                walk_at "rd"
                refine ite2 (fun d2 => ?_) (fun d2 => ?_)
                · walk_at "rd"
                  have nb : ¬ 6 < (setT (f5.norm.recs ++ f6.norm.recs)).length := by
                    have := nd_sub_len (l := setT (f5.norm.recs ++ f6.norm.recs)) (m := ws) setT_nd fun y hy => by
                      rw [setT_mem, List.mem_append, recs_mem, recs_mem] at hy
                      exact hy.elim (hs5 y) (hs6 y)
                    omega
                  refine ⟨f5.norm, f6.norm, _, _, rfl, hru5, hru6, by rw [norm_dep]; omega, by rw [norm_dep]; omega, ?_⟩
                  rw [if_neg nb]
                  intro H7 ru s7 hru
                  obtain ⟨p7, x7, y7, e7, hq7, _⟩ := id hru
                  subst e7
                  refine ⟨⟨_, rfl⟩, ?_⟩
                  walk_at "rd"
                  intro t1 ht1
                  walk_at "rd"
                  intro t2 ht2
                  have sA : Same H6 (upd (upd H7 t1 (.tup [.str "and", nd5, nd6])) t2 (.tup [.ref p7, .ref t1])) := (s7.new ht1).new ht2
                  refine k _ o6 t2 (.ref p7) (.ref t1) (.bin "and" f5 f6) (((kp4.trans kp5).trans kp6).trans (.of_same sA)) (sA _ _ hp6) (h6.mono (by omega)) upd_same (hru.im (((Same.refl H7).new ht1).new ht2).im) ⟨t1, nd5, nd6, rfl, upd_old upd_same ht2, hnd5.ik sA.ik, hnd6.ik sA.ik⟩ (show max f5.dep f6.dep + 1 < n + 1 by omega) ⟨by simp, ho5, ho6⟩ (fun y hy => (List.mem_append.mp hy).elim (hs5 y) (hs6 y))

                · walk_at "rd"
                  refine ite2 (fun d3 => ?_) (fun d3 => ?_)
                  · walk_at "rd"
                    have nb : ¬ 6 < (setT (f5.norm.recs ++ f6.norm.recs)).length := by
                      have := nd_sub_len (l := setT (f5.norm.recs ++ f6.norm.recs)) (m := ws) setT_nd fun y hy => by
                        rw [setT_mem, List.mem_append, recs_mem, recs_mem] at hy
                        exact hy.elim (hs5 y) (hs6 y)
                      omega
                    refine ⟨f5.norm, f6.norm, _, _, rfl, hru5, hru6, by rw [norm_dep]; omega, by rw [norm_dep]; omega, ?_⟩
                    rw [if_neg nb]
                    intro H7 ru s7 hru
                    obtain ⟨p7, x7, y7, e7, hq7, _⟩ := id hru
                    subst e7
                    refine ⟨⟨_, rfl⟩, ?_⟩
                    walk_at "rd"
                    intro t1 ht1
                    walk_at "rd"
                    intro t2 ht2
                    have sA : Same H6 (upd (upd H7 t1 (.tup [.str "or", nd5, nd6])) t2 (.tup [.ref p7, .ref t1])) := (s7.new ht1).new ht2
                    refine k _ o6 t2 (.ref p7) (.ref t1) (.bin "or" f5 f6) (((kp4.trans kp5).trans kp6).trans (.of_same sA)) (sA _ _ hp6) (h6.mono (by omega)) upd_same (hru.im (((Same.refl H7).new ht1).new ht2).im) ⟨t1, nd5, nd6, rfl, upd_old upd_same ht2, hnd5.ik sA.ik, hnd6.ik sA.ik⟩ (show max f5.dep f6.dep + 1 < n + 1 by omega) ⟨by simp, ho5, ho6⟩ (fun y hy => (List.mem_append.mp hy).elim (hs5 y) (hs6 y))

                  · walk_at "rd"
                    have nb : ¬ 6 < (setT (f5.norm.recs ++ f6.norm.recs)).length := by
                      have := nd_sub_len (l := setT (f5.norm.recs ++ f6.norm.recs)) (m := ws) setT_nd fun y hy => by
                        rw [setT_mem, List.mem_append, recs_mem, recs_mem] at hy
                        exact hy.elim (hs5 y) (hs6 y)
                      omega
                    refine ⟨f5.norm, f6.norm, _, _, rfl, hru5, hru6, by rw [norm_dep]; omega, by rw [norm_dep]; omega, ?_⟩
                    rw [if_neg nb]
                    intro H7 ru s7 hru
                    obtain ⟨p7, x7, y7, e7, hq7, _⟩ := id hru
                    subst e7
                    refine ⟨⟨_, rfl⟩, ?_⟩
                    walk_at "rd"
                    intro t1 ht1
                    walk_at "rd"
                    intro t2 ht2
                    have sA : Same H6 (upd (upd H7 t1 (.tup [.str "needs", nd5, nd6])) t2 (.tup [.ref p7, .ref t1])) := (s7.new ht1).new ht2
                    refine k _ o6 t2 (.ref p7) (.ref t1) (.bin "needs" f5 f6) (((kp4.trans kp5).trans kp6).trans (.of_same sA)) (sA _ _ hp6) (h6.mono (by omega)) upd_same (hru.im (((Same.refl H7).new ht1).new ht2).im) ⟨t1, nd5, nd6, rfl, upd_old upd_same ht2, hnd5.ik sA.ik, hnd6.ik sA.ik⟩ (show max f5.dep f6.dep + 1 < n + 1 by omega) ⟨by simp, ho5, ho6⟩ (fun y hy => (List.mem_append.mp hy).elim (hs5 y) (hs6 y))
/-! ### the text of a rule -/
theorem app_len (x y : Str) : (x ++ y).length = x.length + y.length := by
  show (x.cps ++ y.cps).size = x.cps.size + y.cps.size
  simp
theorem app_nil (x : Str) : Str.empty ++ x = x := by
  show (⟨#[] ++ x.cps⟩ : Str) = x
  simp
def Fm.txt : Fm → Str
  | .has z => z
  | .tog zs => "together(" ++ Txt.join " " zs ++ ")"
  | .alw => "always()"
  | .nt f => "not " ++ f.txt
  | .bin w f g => "(" ++ f.txt ++ " " ++ w ++ " " ++ g.txt ++ ")"
theorem join_len (zs : List Str) : (Txt.join " " zs).length ≤ (zs.map (·.length)).sum + zs.length := by
  have e : Txt.join " " zs = Str.join " " zs := StrLaws.glued_eq_join " " zs
  rw [e]
  have h := StrLaws.join_length_le " " zs
  have : (Str.ofString " ").length = 1 := by decide +kernel
  rw [this] at h
  omega
theorem word_len {z : Str} (h : IsWord z) : z.length ≤ 8 := by rw [← len_toList]; exact h.hi
theorem sum_len : ∀ {zs : List Str}, (∀ z ∈ zs, IsWord z) → (zs.map (·.length)).sum ≤ 8 * zs.length
  | [], _ => by simp
  | z :: zs, h => by
    have h1 := word_len (h z List.mem_cons_self)
    have h2 := sum_len (zs := zs) fun y hy => h y (List.mem_cons_of_mem _ hy)
    simp only [List.map_cons, List.sum_cons, List.length_cons]
    omega
theorem l_tog : ("together(" : Str).length = 9 := by decide +kernel
theorem l_cl : (")" : Str).length = 1 := by decide +kernel
theorem l_op : ("(" : Str).length = 1 := by decide +kernel
theorem l_sp : (" " : Str).length = 1 := by decide +kernel
theorem l_not : ("not " : Str).length = 4 := by decide +kernel
theorem l_alw : ("always()" : Str).length = 8 := by decide +kernel
theorem l_ops {w' : Str} (h : w' ∈ opsS) : w'.length ≤ 5 := by
  have : opsS.all (fun m => decide (m.length ≤ 5)) = true := by decide +kernel
  exact of_decide_eq_true (List.all_eq_true.mp this w' h)
theorem txt_len : ∀ {f : Fm}, f.Ok → f.txt.length + 10 ≤ 100 * 2 ^ f.dep
  | .has z, h => by
    have := word_len h
    show z.length + 10 ≤ 100 * 2 ^ 0
    omega
  | .tog zs, h => by
    have h1 := sum_len h.1
    have h2 := h.2
    have h3 := join_len zs
    show (("together(" : Str) ++ Txt.join " " zs ++ ")").length + 10 ≤ 100 * 2 ^ 0
    rw [app_len, app_len, l_tog, l_cl]
    omega
  | .alw, _ => by
    show ("always()" : Str).length + 10 ≤ 100 * 2 ^ 0
    rw [l_alw]; omega
  | .nt f, h => by
    have h1 := txt_len (f := f) h
    show (("not " : Str) ++ f.txt).length + 10 ≤ 100 * 2 ^ (f.dep + 1)
    rw [app_len, l_not, Nat.pow_succ]; omega
  | .bin w' f g, h => by
    have h1 := txt_len (f := f) h.2.1
    have h2 := txt_len (f := g) h.2.2.1
    have h3 := l_ops h.1
    have e1 : 2 ^ f.dep ≤ 2 ^ (max f.dep g.dep) := Nat.pow_le_pow_right (by omega) (by omega)
    have e2 : 2 ^ g.dep ≤ 2 ^ (max f.dep g.dep) := Nat.pow_le_pow_right (by omega) (by omega)
    show (("(" : Str) ++ f.txt ++ " " ++ w' ++ " " ++ g.txt ++ ")").length + 10 ≤ 100 * 2 ^ (max f.dep g.dep + 1)
    rw [app_len, app_len, app_len, app_len, app_len, app_len, l_op, l_sp, l_cl, Nat.pow_succ]; omega
theorem txt_len10 {f : Fm} (h : f.Ok) (hd : f.dep < 10) : f.txt.length ≤ 51200 := by
  have h1 := txt_len h
  have : 2 ^ f.dep ≤ 2 ^ 9 := Nat.pow_le_pow_right (by omega) (by omega)
  omega
def spSpell (n : Nat) : Sp := fun vs H Q _ => ∃ f v, vs = [v] ∧ Fm.dep f < n ∧ n ≤ 10 ∧ f.Ok ∧ FmAt H f v ∧ ∀ H', Same H H' → Q (.str f.txt) H'
theorem ok_spelled (T : Txt K mg a d) : ∀ n, FnOk P w K mg base CX0 n a.spelled d.spelled ["form"] (spSpell n)
  | 0 => fn_none fun vs H Q E ⟨f, v, _, h, _⟩ => by omega
  | n + 1 => by
    have G_spelled := ok_spelled T n
    refine T.spelled.ok sc_spelled (fun vs H Q E h => ?_) (fun cdv A outer s H vs Q E hr h => ?_)
    · obtain ⟨f, v, rfl, _⟩ := h
      rfl
    · obtain ⟨f, v, rfl, hd, hn, ho, hv, k⟩ := h
      refine ⟨_, (pss_cons (ps_set (i := 1) sc_spelled.nd rfl (Or.inl rfl) (pe_ix ix_tup (pv 0) pe_int (fun _ _ => rfl)))
  (pss_cons (ps_if (pt_cmpR op_eq (pv 1) pe_str (nomark _)) (pss_one (ps_ret pe_str)) pss_nil)
  (pss_cons (ps_if (pt_cmpR op_eq (pv 1) pe_str (nomark _)) (pss_one (ps_ret (pe_ix ix_tup (pv 0) pe_int (fun _ _ => rfl)))) pss_nil)
  (pss_cons (ps_if (pt_cmpR op_eq (pv 1) pe_str (nomark _)) (pss_one (ps_ret (pe_ifExp (pt_cmpR op_gt (pe_callB call_len_seq (by rfl) T.n_len PySem.boot_len (pa_cons (pv 0) pa_nil)) pe_int (nomark _)) (pe_joined (PJ.cons pe_str (PJ.cons (pe_fmt (pe_join pe_str (pe_slice sl_tup (pv 0) (po_some pe_int) po_none))) (PJ.cons pe_str PJ.nil)))) pe_str))) pss_nil)
  (pss_cons (ps_if (pt_cmpR op_eq (pv 1) pe_str (nomark _)) (pss_one (ps_ret (pe_joined (PJ.cons pe_str (PJ.cons (pe_fmt (pe_call G_spelled (hr.mono (by omega)) (by rfl) T.g_spelled T.spelled.kp T.b_spelled .nil pass0 (pa_cons (pe_ix ix_tup (pv 0) pe_int (fun _ _ => rfl)) pa_nil))) PJ.nil))))) pss_nil)
  (pss_one (ps_ret (pe_joined (PJ.cons pe_str (PJ.cons (pe_fmt (pe_call G_spelled (hr.mono (by omega)) (by rfl) T.g_spelled T.spelled.kp T.b_spelled .nil pass0 (pa_cons (pe_ix ix_tup (pv 0) pe_int (fun _ _ => rfl)) pa_nil))) (PJ.cons pe_str (PJ.cons (pe_fmt (pv 1)) (PJ.cons pe_str (PJ.cons (pe_fmt (pe_call G_spelled (hr.mono (by omega)) (by rfl) T.g_spelled T.spelled.kp T.b_spelled .nil pass0 (pa_cons (pe_ix ix_tup (pv 0) pe_int (fun _ _ => rfl)) pa_nil))) (PJ.cons pe_str PJ.nil))))))))))))))), ?_⟩
      dsimp only [cxOf]
      cases f with
      | alw =>
        obtain ⟨p, rfl, hp⟩ := hv
        walk_at "rd"
        exact k H (Same.refl H)
      | has z =>
        obtain ⟨p, rfl, hp⟩ := hv
        walk_at "rd"
        exact k H (Same.refl H)
      | tog zs =>
        obtain ⟨p, rfl, hp⟩ := hv
        have e1 := at0 (x := .str "together") (xs := zs.map V.str)
        have e2 := nwhole (x := .str "together") (xs := zs.map V.str)
        have tl := txt_len10 ho (by omega)
        walk_at "rd"
        rw [List.length_cons, List.length_map]
        cases zs with
        | nil =>
          refine iteF ?_
          have z := k H (Same.refl H)
          rw [show Fm.txt (.tog []) = "together()" by decide +kernel] at z
          exact z
        | cons z0 zr =>
          rw [decide_eq_true (by rw [List.length_cons]; omega : (1 : Int) < (((z0 :: zr).length + 1 : Nat) : Int))]
          refine iteT ?_
          have s1 := sum_len ho.1
          have s2 := ho.2
          have s3 := join_len (z0 :: zr)
          refine ⟨_, rfl, ?_, ?_⟩
          · rw [app_nil, l_tog, sizeLine_eq]; omega
          have js : ((z0 :: zr).map (·.length)).sum + (z0 :: zr).length * (Str.ofString " ").length ≤ 16777216 := by
            rw [show (Str.ofString " ").length = 1 from l_sp]; omega
          walk_at "rd"
          intro p3 hp3
          rw [cut1]
          refine ⟨_, _, z0 :: zr, rfl, rfl, .inr (SqT.of upd_same), js, ?_⟩
          refine .inl ⟨_, rfl, by rw [sizeLine_eq]; omega, ?_⟩
          refine ⟨_, rfl, ?_, ?_⟩
          · rw [app_nil, app_len, l_tog, sizeLine_eq]; omega
          refine ⟨_, rfl, ?_, ?_⟩
          · rw [app_nil, app_len, app_len, l_tog, l_cl, sizeLine_eq]; omega
          have z := k _ ((Same.refl H).new (o := .tup ((z0 :: zr).map V.str)) hp3)
          show Q (.str (Str.empty ++ "together(" ++ Txt.join " " (z0 :: zr) ++ ")")) _
          rw [app_nil]
          exact z
      | nt f =>
        obtain ⟨p, x, rfl, hp, hx⟩ := hv
        have hd' : f.dep < n := by
          have : f.dep + 1 < n + 1 := hd
          omega
        have tl := txt_len10 (f := f) ho (by omega)
        walk_at "rd"
        refine ⟨f, x, rfl, hd', by omega, ho, hx, fun H1 s1 => ?_⟩
        refine .inl ⟨_, rfl, by rw [sizeLine_eq]; omega, ?_⟩
        refine ⟨_, rfl, ?_, ?_⟩
        · rw [app_nil, app_len, l_not, sizeLine_eq]; omega
        show Q (.str (Str.empty ++ "not " ++ f.txt)) _
        rw [app_nil]
        exact k H1 s1
      | bin w' f g =>
        obtain ⟨p, x, y, rfl, hp, hx, hy⟩ := hv
        have hd' : max f.dep g.dep + 1 < n + 1 := hd
        have hf : f.dep < n := by omega
        have hg : g.dep < n := by omega
        obtain ⟨o1, o2, o3, o4⟩ := ho
        have t1 := txt_len10 (f := f) o2 (by omega)
        have t2 := txt_len10 (f := g) o3 (by omega)
        have t3 := l_ops o1
        have o1 : w' = "and" ∨ w' = "or" ∨ w' = "needs" := by simpa [opsS] using o1
        rcases o1 with rfl | rfl | rfl
        all_goals
          walk_at "rd"
          refine ⟨f, x, rfl, hf, by omega, o2, hx, fun H1 s1 => ?_⟩
          have hp1 := s1 _ _ hp
          refine .inl ⟨_, rfl, by rw [sizeLine_eq]; omega, ?_⟩
          refine ⟨_, rfl, ?_, ?_⟩
          · rw [app_nil, app_len, l_op, sizeLine_eq]; omega
          refine ⟨_, rfl, ?_, ?_⟩
          · rw [app_nil, app_len, app_len, l_op, l_sp, sizeLine_eq]; omega
          refine ⟨_, rfl, .inl ⟨_, rfl, by rw [sizeLine_eq]; omega, ?_⟩⟩
          refine ⟨_, rfl, ?_, ?_⟩
          · rw [app_nil, app_len, app_len, app_len, l_op, l_sp, sizeLine_eq]; omega
          refine ⟨_, rfl, ?_, ?_⟩
          · rw [app_nil, app_len, app_len, app_len, app_len, l_op, l_sp, sizeLine_eq]; omega
          walk_at "rd"
          refine ⟨g, y, rfl, hg, by omega, o3, hy.im s1.im, fun H2 s2 => ?_⟩
          refine .inl ⟨_, rfl, by rw [sizeLine_eq]; omega, ?_⟩
          refine ⟨_, rfl, ?_, ?_⟩
          · rw [app_nil, app_len, app_len, app_len, app_len, app_len, l_op, l_sp, sizeLine_eq]; omega
          refine ⟨_, rfl, ?_, ?_⟩
          · rw [app_nil, app_len, app_len, app_len, app_len, app_len, app_len, l_op, l_sp, l_cl, sizeLine_eq]; omega
          have z := k H2 (s1.trans s2)
          refine cast ?_ z
          rw [show ∀ w'' : Str, Fm.txt (.bin w'' f g) = "(" ++ f.txt ++ " " ++ w'' ++ " " ++ g.txt ++ ")" from fun _ => rfl, app_nil]
          rfl
def spStrR (a : Ad) (n : Nat) : Sp := fun vs H Q _ => ∃ f v, vs = [v] ∧ RuAt a H f v ∧ f.dep < n ∧ n ≤ 10 ∧ ∀ H', Same H H' → Q (.str f.txt) H'
theorem ok_RuleU_strU (T : Txt K mg a d) (n : Nat) : FnOk P w K mg base CX0 (n + 1) a.RuleU_strU d.RuleU_strU ["self"] (spStrR a n) := by
  have G_spelled := ok_spelled (w := w) (base := base) T n
  refine T.RuleU_strU.ok sc_RuleU_strU (fun vs H Q E h => ?_) (fun cdv A outer s H vs Q E hr h => ?_)
  · obtain ⟨f, v, rfl, _⟩ := h
    rfl
  · obtain ⟨f, v, rfl, ⟨p, dx, x, rfl, hp, hf, ho⟩, hd, hn, k⟩ := h
    have c1 := T.k_Rule
    have n1 := T.na_Rule_form
    have tl := txt_len10 ho (by omega)
    refine ⟨_, (pss_one (ps_ret (pe_joined1 (pe_fmt (pe_call G_spelled (hr.mono (by omega)) (by rfl) T.g_spelled T.spelled.kp T.b_spelled .nil pass0 (pa_cons (pe_fld (pv 0) rfl) pa_nil)))))), ?_⟩
    try dsimp only [cxOf]
    walk_at "rd"
    refine ⟨f, x, rfl, hd, hn, ho, hf, fun H1 s1 => ?_⟩
    exact .inl ⟨_, rfl, by rw [sizeLine_eq]; omega, k H1 s1⟩
/-! ### the law's text of a node -/
/-! ### k16: all the selections of some words -/
def subsOf (ws : List Str) : List (List Str) := ws.foldl (fun L z => L ++ L.map (· ++ [z])) [[]]
theorem subs_snoc (ws : List Str) (z : Str) : subsOf (ws ++ [z]) = subsOf ws ++ (subsOf ws).map (· ++ [z]) := by
  unfold subsOf
  rw [List.foldl_append]; rfl
theorem subs_len : ∀ n (ws : List Str), ws.length = n → (subsOf ws).length = 2 ^ n ∧ ∀ ks ∈ subsOf ws, ks.length ≤ n ∧ ∀ z ∈ ks, z ∈ ws
  | 0, ws, h => by
    cases List.eq_nil_of_length_eq_zero h
    refine ⟨rfl, fun ks hk => ?_⟩
    cases List.mem_singleton.mp hk
    exact ⟨Nat.le_refl 0, fun z hz => nomatch hz⟩
  | n + 1, ws, h => by
    have hne : ws ≠ [] := fun e => by rw [e] at h; cases h
    obtain ⟨us, z, rfl⟩ : ∃ us z, ws = us ++ [z] := ⟨ws.dropLast, ws.getLast hne, (List.dropLast_concat_getLast hne).symm⟩
    rw [List.length_append, List.length_singleton] at h
    obtain ⟨h1, h2⟩ := subs_len n us (by omega)
    rw [subs_snoc]
    refine ⟨by rw [List.length_append, List.length_map, h1, Nat.pow_succ]; omega, fun ks hk => ?_⟩
    rcases List.mem_append.mp hk with hk | hk
    · exact ⟨by have := (h2 ks hk).1; omega, fun y hy => List.mem_append_left _ ((h2 ks hk).2 y hy)⟩
    · obtain ⟨js, hj, rfl⟩ := List.mem_map.mp hk
      obtain ⟨h3, h4⟩ := h2 js hj
      refine ⟨by rw [List.length_append, List.length_singleton]; omega, fun y hy => ?_⟩
      rcases List.mem_append.mp hy with hy | hy
      · exact List.mem_append_left _ (h4 y hy)
      · exact List.mem_append_right _ hy
theorem subs_all (p : Str → Bool) : ∀ n (ws : List Str), ws.length = n → ws.filter p ∈ subsOf ws
  | 0, ws, h => by
    cases List.eq_nil_of_length_eq_zero h
    exact List.mem_singleton.mpr rfl
  | n + 1, ws, h => by
    have hne : ws ≠ [] := fun e => by rw [e] at h; cases h
    obtain ⟨us, z, rfl⟩ : ∃ us z, ws = us ++ [z] := ⟨ws.dropLast, ws.getLast hne, (List.dropLast_concat_getLast hne).symm⟩
    rw [List.length_append, List.length_singleton] at h
    have h1 := subs_all p n us (by omega)
    rw [subs_snoc, List.filter_append]
    cases e : p z with
    | true =>
      rw [List.filter_cons_of_pos (by rw [e]), List.filter_nil]
      exact List.mem_append_right _ (List.mem_map.mpr ⟨_, h1, rfl⟩)
    | false =>
      rw [List.filter_cons_of_neg (by rw [e]; simp), List.filter_nil, List.append_nil]
      exact List.mem_append_left _ h1
def spSubsW (O : List V → HO) : Sp := fun vs H Q _ => ∃ (q : Addr) (ws : List Str), vs = [.ref q] ∧ H q = some (.lst (ws.map V.str)) ∧ ws.length ≤ 13 ∧
  ∀ H' r (ps : List (Addr × List Str)), Same H H' → H' r = some (.lst (ps.map fun e => V.ref e.1)) → ps.map (·.2) = subsOf ws → (∀ e ∈ ps, H' e.1 = some (O (e.2.map V.str))) → Q (.ref r) H'
theorem pow13 {i : Nat} (h : i ≤ 13) : 2 ^ i ≤ 8192 := Nat.pow_le_pow_right (n := 2) (by omega) h
theorem ok_law_subsets (T : Txt K mg a d) : FnOk P w K mg base CX0 1 a.law_subsets d.law_subsets ["_law_records"] (spSubsW HO.lst) := by
  refine T.law_subsets.ok sc_law_subsets (fun vs H Q E h => ?_) (fun cdv A outer s H vs Q E hr h => ?_)
  · obtain ⟨q, ws, rfl, _⟩ := h
    rfl
  · obtain ⟨q, ws, rfl, hq, wl, k⟩ := h
    refine ⟨_, (pss_cons (ps_set (i := 1) sc_law_subsets.nd rfl (Or.inl rfl) (pe_lst (pa_cons (pe_lst pa_nil) pa_nil)))
  (pss_cons (ps_for PassesOwn.never rfl (pi_list (pv 0)) (pg_name (i := 2) sc_law_subsets.nd rfl (Or.inr rfl))
  (pss_one (ps_set (i := 1) sc_law_subsets.nd rfl (Or.inl rfl) (pe_op op_cat (pv 1) (pe_lc (own := [("_law_some", 3)]) (tt := tYes) rfl sc_law_subsets.nd (pi_list (pv 1)) (blkOk_by (own := [("_law_some", 3)]) (N := ["_law_records", "_law_found", "_law_record", "_law_some"]) (sc := defScope s_law_subsets) (by decide +kernel)) (fun _ _ _ _ _ => (pg_name (i := 3) sc_law_subsets.nd rfl (Or.inl rfl))) (fun _ _ _ _ _ => pts_nil) (fun _ _ _ _ _ => (pe_op op_cat (pv 3) (pe_lst (pa_cons (pv 2) pa_nil)))))))))
  (pss_one (ps_ret (pv 1))))), ?_⟩
    dsimp only [cxOf]
    walk_at "rd"
    intro q1 hq1
    walk_at "rd"
    intro q2 hq2
    have s2 : Same H (upd (upd H q1 (.lst [])) q2 (.lst [.ref q1])) := ((Same.refl H).new hq1).new hq2
    have h1 : upd (upd H q1 (.lst [])) q2 (.lst [.ref q1]) q1 = some (.lst []) := upd_old upd_same hq2
    have h2 := upd_same (H := upd H q1 (.lst [])) (a := q2) (o := .lst [.ref q1])
    generalize upd (upd H q1 (.lst [])) q2 (.lst [.ref q1]) = H2 at s2 h1 h2 ⊢
    have hqq := s2 _ _ hq
    walk_at "rd"
    refine ⟨⟨_, SqL.of hqq⟩, ?_⟩
    refine for_list (xs := ws.map V.str) (fun i σ H' => Same H H' ∧ ∃ (r : Addr) (ps : List (Addr × List Str)) (v2 v3 : Option V), ps.map (·.2) = subsOf (ws.take i) ∧ H' r = some (.lst (ps.map fun e => V.ref e.1)) ∧ (∀ e ∈ ps, H' e.1 = some (.lst (e.2.map V.str))) ∧ σ = [some (.ref q), some (.ref r), v2, v3]) ?_ ?_ ?_ ?_
    · refine ⟨s2, q2, [(q1, [])], _, _, rfl, h2, fun x hx => ?_, rfl⟩
      cases List.mem_singleton.mp hx
      exact h1
    · rintro i σ H' _ ⟨s3, _⟩
      exact SqL.of (s3 _ _ hq)
    · rintro i v σ H3 hv ⟨s3, r, ps, v2, v3, lr, hr3, hrs, rfl⟩
      have hi : i < ws.length := by
        have := (List.getElem?_eq_some_iff.mp hv).1
        rw [List.length_map] at this
        exact this
      rw [List.getElem?_map] at hv
      obtain ⟨z, hz, rfl⟩ : ∃ z, ws[i]? = some z ∧ v = .str z := by
        cases e : ws[i]? with
        | none => rw [e] at hv; cases hv
        | some z => rw [e] at hv; cases hv; exact ⟨z, rfl, rfl⟩
      have p6 := pow13 (i := i) (by omega)
      have li : (ws.take i).length = i := by rw [List.length_take]; omega
      obtain ⟨pl, sl⟩ := subs_len i (ws.take i) li
      have pl : ps.length = 2 ^ i := by rw [← pl, ← lr, List.length_map]
      walk_at "rd"
      refine ⟨⟨_, SqL.of hr3⟩, ?_⟩
      intro S hS
      refine lc_list (xs := ps.map fun e => V.ref e.1) (fun j H' => Same H3 H' ∧ ∃ ts : List (Addr × List Str), ts.map (·.2) = ((ps.take j).map (·.2)).map (· ++ [z]) ∧ H' S = some (.lst (ts.map fun e => V.ref e.1)) ∧ (∀ e ∈ ts, e.1 ≠ S ∧ H' e.1 = some (.lst (e.2.map V.str)))) ?_ ?_ ?_ ?_
      · exact ⟨(Same.refl _).new hS, [], rfl, upd_same, fun x hx => nomatch hx⟩
      · rintro j H' _ ⟨s4, _⟩
        exact SqL.of (s4 _ _ hr3)
      · rintro j v H' hv ⟨s4, ts, lt, hS4, hts⟩
        have hj : j < ps.length := by
          have := (List.getElem?_eq_some_iff.mp hv).1
          rw [List.length_map] at this
          exact this
        rw [List.getElem?_map] at hv
        obtain ⟨e, hx, rfl⟩ : ∃ e, ps[j]? = some e ∧ v = .ref e.1 := by
          cases e : ps[j]? with
          | none => rw [e] at hv; cases hv
          | some x => rw [e] at hv; cases hv; exact ⟨x, rfl, rfl⟩
        have hk := hrs e (List.mem_of_getElem? hx)
        have hk4 := s4 _ _ hk
        have lk := (sl e.2 (lr ▸ List.mem_map.mpr ⟨e, List.mem_of_getElem? hx, rfl⟩)).1
        have tl : ts.length = j := by
          have := congrArg List.length lt
          rw [List.length_map, List.length_map, List.length_map, List.length_take] at this
          omega
        have lc : (e.2.map V.str).length + [V.str z].length ≤ sizeLine := by rw [List.length_map, List.length_singleton, sizeLine_eq]; omega
        walk_at "rd"
        intro q5 hq5
        walk_at "rd"
        intro q6 hq6
        have s6 : Same H' (upd (upd H' q5 (.lst [.str z])) q6 (.lst (e.2.map V.str ++ [.str z]))) := ((Same.refl H').new hq5).new hq6
        have h6 := upd_same (H := upd H' q5 (.lst [.str z])) (a := q6) (o := .lst (e.2.map V.str ++ [.str z]))
        have n6 : q6 ≠ S := fun e => by rw [e, upd_old hS4 hq5] at hq6; cases hq6
        generalize upd (upd H' q5 (.lst [.str z])) q6 (.lst (e.2.map V.str ++ [.str z])) = H6 at s6 h6 ⊢
        have hS6 := s6 _ _ hS4
        refine ⟨_, hS6, by rw [List.length_map, sizeLine_eq]; omega, (s4.trans s6).frsh hS, ts ++ [(q6, e.2 ++ [z])], ?_, by rw [upd_same, List.map_append]; rfl, fun y hy => ?_⟩
        · rw [List.take_add_one, hx, List.map_append, List.map_append, List.map_append, lt]; rfl
        rcases List.mem_append.mp hy with hy | hy
        · obtain ⟨ny, hj1⟩ := hts y hy
          exact ⟨ny, upd_oth ny (s6 _ _ hj1)⟩
        · cases List.mem_singleton.mp hy
          exact ⟨n6, upd_oth n6 (by rw [List.map_append]; exact h6)⟩
      · rintro H4 ⟨s4, ts, lt, hS4, hts⟩
        rw [List.length_map, List.take_length, lr] at lt
        have hr4 := s4 _ _ hr3
        have tl : ts.length = 2 ^ i := by
          have := congrArg List.length lt
          rw [List.length_map, List.length_map, ← lr, List.length_map] at this
          omega
        have lc : (ps.map fun e => V.ref e.1).length + (ts.map fun e => V.ref e.1).length ≤ sizeLine := by rw [List.length_map, List.length_map, sizeLine_eq]; omega
        walk_at "rd"
        intro q5 hq5
        refine ⟨(s3.trans s4).new hq5, q5, ps ++ ts, _, _, ?_, by rw [upd_same, List.map_append], fun x hx => ?_, rfl⟩
        · rw [List.map_append, lr, lt, List.take_add_one, hz]
          exact (subs_snoc _ _).symm
        rcases List.mem_append.mp hx with hx | hx
        · exact upd_old (s4 _ _ (hrs x hx)) hq5
        · exact upd_old (hts x hx).2 hq5
    · rintro σ H3 ⟨s3, r, ps, v2, v3, lr, hr3, hrs, rfl⟩
      rw [List.length_map, List.take_length] at lr
      walk_at "rd"
      exact k _ r ps s3 hr3 lr hrs
/-! ### k16: subsets, allow_the_same, == -/
theorem ok_subsets (T : Txt K mg a d) : FnOk P w K mg base CX0 1 a.subsets d.subsets ["records"] (spSubsW HO.tup) := by
  refine T.subsets.ok sc_subsets (fun vs H Q E h => ?_) (fun cdv A outer s H vs Q E hr h => ?_)
  · obtain ⟨q, ws, rfl, _⟩ := h
    rfl
  · obtain ⟨q, ws, rfl, hq, wl, k⟩ := h
    refine ⟨_, (pss_cons (ps_set (i := 1) sc_subsets.nd rfl (Or.inl rfl) (pe_lst (pa_cons (pe_tup pa_nil) pa_nil)))
  (pss_cons (ps_for PassesOwn.never rfl (pi_list (pv 0)) (pg_name (i := 2) sc_subsets.nd rfl (Or.inr rfl))
  (pss_one (ps_set (i := 1) sc_subsets.nd rfl (Or.inl rfl) (pe_op op_cat (pv 1) (pe_lc (own := [("one", 3)]) (tt := tYes) rfl sc_subsets.nd (pi_list (pv 1)) (blkOk_by (own := [("one", 3)]) (N := ["records", "found", "record", "one"]) (sc := defScope s_subsets) (by decide +kernel)) (fun _ _ _ _ _ => (pg_name (i := 3) sc_subsets.nd rfl (Or.inl rfl))) (fun _ _ _ _ _ => pts_nil) (fun _ _ _ _ _ => (pe_op (op_catAK (K := K) rfl) (pv 3) (pe_tup (pa_cons (pv 2) pa_nil)))))))))
  (pss_one (ps_ret (pv 1))))), ?_⟩
    dsimp only [cxOf]
    walk_at "rd"
    intro q1 hq1
    walk_at "rd"
    intro q2 hq2
    have s2 : Same H (upd (upd H q1 (.tup [])) q2 (.lst [.ref q1])) := ((Same.refl H).new hq1).new hq2
    have h1 : upd (upd H q1 (.tup [])) q2 (.lst [.ref q1]) q1 = some (.tup []) := upd_old upd_same hq2
    have h2 := upd_same (H := upd H q1 (.tup [])) (a := q2) (o := .lst [.ref q1])
    generalize upd (upd H q1 (.tup [])) q2 (.lst [.ref q1]) = H2 at s2 h1 h2 ⊢
    have hqq := s2 _ _ hq
    walk_at "rd"
    refine ⟨⟨_, SqL.of hqq⟩, ?_⟩
    refine for_list (xs := ws.map V.str) (fun i σ H' => Same H H' ∧ ∃ (r : Addr) (ps : List (Addr × List Str)) (v2 v3 : Option V), ps.map (·.2) = subsOf (ws.take i) ∧ H' r = some (.lst (ps.map fun e => V.ref e.1)) ∧ (∀ e ∈ ps, H' e.1 = some (.tup (e.2.map V.str))) ∧ σ = [some (.ref q), some (.ref r), v2, v3]) ?_ ?_ ?_ ?_
    · refine ⟨s2, q2, [(q1, [])], _, _, rfl, h2, fun x hx => ?_, rfl⟩
      cases List.mem_singleton.mp hx
      exact h1
    · rintro i σ H' _ ⟨s3, _⟩
      exact SqL.of (s3 _ _ hq)
    · rintro i v σ H3 hv ⟨s3, r, ps, v2, v3, lr, hr3, hrs, rfl⟩
      have hi : i < ws.length := by
        have := (List.getElem?_eq_some_iff.mp hv).1
        rw [List.length_map] at this
        exact this
      rw [List.getElem?_map] at hv
      obtain ⟨z, hz, rfl⟩ : ∃ z, ws[i]? = some z ∧ v = .str z := by
        cases e : ws[i]? with
        | none => rw [e] at hv; cases hv
        | some z => rw [e] at hv; cases hv; exact ⟨z, rfl, rfl⟩
      have p6 := pow13 (i := i) (by omega)
      have li : (ws.take i).length = i := by rw [List.length_take]; omega
      obtain ⟨pl, sl⟩ := subs_len i (ws.take i) li
      have pl : ps.length = 2 ^ i := by rw [← pl, ← lr, List.length_map]
      walk_at "rd"
      refine ⟨⟨_, SqL.of hr3⟩, ?_⟩
      intro S hS
      refine lc_list (xs := ps.map fun e => V.ref e.1) (fun j H' => Same H3 H' ∧ ∃ ts : List (Addr × List Str), ts.map (·.2) = ((ps.take j).map (·.2)).map (· ++ [z]) ∧ H' S = some (.lst (ts.map fun e => V.ref e.1)) ∧ (∀ e ∈ ts, e.1 ≠ S ∧ H' e.1 = some (.tup (e.2.map V.str)))) ?_ ?_ ?_ ?_
      · exact ⟨(Same.refl _).new hS, [], rfl, upd_same, fun x hx => nomatch hx⟩
      · rintro j H' _ ⟨s4, _⟩
        exact SqL.of (s4 _ _ hr3)
      · rintro j v H' hv ⟨s4, ts, lt, hS4, hts⟩
        have hj : j < ps.length := by
          have := (List.getElem?_eq_some_iff.mp hv).1
          rw [List.length_map] at this
          exact this
        rw [List.getElem?_map] at hv
        obtain ⟨e, hx, rfl⟩ : ∃ e, ps[j]? = some e ∧ v = .ref e.1 := by
          cases e : ps[j]? with
          | none => rw [e] at hv; cases hv
          | some x => rw [e] at hv; cases hv; exact ⟨x, rfl, rfl⟩
        have hk := hrs e (List.mem_of_getElem? hx)
        have hk4 := s4 _ _ hk
        have lk := (sl e.2 (lr ▸ List.mem_map.mpr ⟨e, List.mem_of_getElem? hx, rfl⟩)).1
        have tl : ts.length = j := by
          have := congrArg List.length lt
          rw [List.length_map, List.length_map, List.length_map, List.length_take] at this
          omega
        have lc : (e.2.map V.str).length + [V.str z].length ≤ sizeLine := by rw [List.length_map, List.length_singleton, sizeLine_eq]; omega
        have sk4 : SqT K H' e.1 (e.2.map V.str) := SqT.of hk4
        walk_at "rd"
        intro q5 hq5
        have h5 := upd_same (H := H') (a := q5) (o := .tup [.str z])
        have s5 := (Same.refl H').new (o := .tup [.str z]) hq5
        have n5 : q5 ≠ S := fun e => by rw [e, hS4] at hq5; cases hq5
        generalize upd H' q5 (.tup [.str z]) = H5 at s5 h5 ⊢
        have fin : ∀ H6 q6, Same H' H6 → H6 q6 = some (.tup (e.2.map V.str ++ [.str z])) → q6 ≠ S → ∃ xs, H6 S = some (.lst xs) ∧ xs.length + 1 ≤ sizeLine ∧ Same H3 (upd H6 S (.lst (xs ++ [.ref q6]))) ∧ ∃ ts : List (Addr × List Str), ts.map (·.2) = ((ps.take (j + 1)).map (·.2)).map (· ++ [z]) ∧ upd H6 S (.lst (xs ++ [.ref q6])) S = some (.lst (ts.map fun e => V.ref e.1)) ∧ (∀ e ∈ ts, e.1 ≠ S ∧ upd H6 S (.lst (xs ++ [.ref q6])) e.1 = some (.tup (e.2.map V.str))) := by
          intro H6 q6 s6 h6 n6
          have hS6 := s6 _ _ hS4
          refine ⟨_, hS6, by rw [List.length_map, sizeLine_eq]; omega, (s4.trans s6).frsh hS, ts ++ [(q6, e.2 ++ [z])], ?_, by rw [upd_same, List.map_append]; rfl, fun y hy => ?_⟩
          · rw [List.take_add_one, hx, List.map_append, List.map_append, List.map_append, lt]; rfl
          rcases List.mem_append.mp hy with hy | hy
          · obtain ⟨ny, hj1⟩ := hts y hy
            exact ⟨ny, upd_oth ny (s6 _ _ hj1)⟩
          · cases List.mem_singleton.mp hy
            exact ⟨n6, upd_oth n6 (by rw [List.map_append]; exact h6)⟩
        refine ⟨e.1, q5, e.2.map V.str, [.str z], rfl, rfl, SqT.of (s5 _ _ hk4), SqT.of h5, lc, (fun e0 => ?_), (fun _ e0 => nomatch e0), (fun e0 _ q6 hq6 => ?_)⟩
        · exact fin H5 q5 s5 (by rw [e0]; exact h5) n5
        · exact fin _ q6 (s5.new hq6) upd_same fun e => by rw [e, s5 _ _ hS4] at hq6; cases hq6
      · rintro H4 ⟨s4, ts, lt, hS4, hts⟩
        rw [List.length_map, List.take_length, lr] at lt
        have hr4 := s4 _ _ hr3
        have tl : ts.length = 2 ^ i := by
          have := congrArg List.length lt
          rw [List.length_map, List.length_map, ← lr, List.length_map] at this
          omega
        have lc : (ps.map fun e => V.ref e.1).length + (ts.map fun e => V.ref e.1).length ≤ sizeLine := by rw [List.length_map, List.length_map, sizeLine_eq]; omega
        walk_at "rd"
        intro q5 hq5
        refine ⟨(s3.trans s4).new hq5, q5, ps ++ ts, _, _, ?_, by rw [upd_same, List.map_append], fun x hx => ?_, rfl⟩
        · rw [List.map_append, lr, lt, List.take_add_one, hz]
          exact (subs_snoc _ _).symm
        rcases List.mem_append.mp hx with hx | hx
        · exact upd_old (s4 _ _ (hrs x hx)) hq5
        · exact upd_old (hts x hx).2 hq5
    · rintro σ H3 ⟨s3, r, ps, v2, v3, lr, hr3, hrs, rfl⟩
      rw [List.length_map, List.take_length] at lr
      walk_at "rd"
      exact k _ r ps s3 hr3 lr hrs
theorem sat_on {ks js : List Str} : ∀ f : Fm, (∀ z ∈ f.recs, (z ∈ ks ↔ z ∈ js)) → f.sat ks = f.sat js
  | .has z, h => decide_eq_decide.mpr (h z (by show z ∈ sortT (setT [z]); rw [sortT_mem, setT_mem]; exact List.mem_singleton.mpr rfl))
  | .tog zs, h => by
    have h : ∀ z ∈ sortT (setT zs), (z ∈ ks ↔ z ∈ js) := h
    have e : (zs.filter fun z => decide (z ∈ ks)) = zs.filter fun z => decide (z ∈ js) := List.filter_congr fun z hz => decide_eq_decide.mpr (h z (by rw [sortT_mem, setT_mem]; exact hz))
    show inV (.int ((zs.filter fun z => decide (z ∈ ks)).length : Int)) _ = inV (.int ((zs.filter fun z => decide (z ∈ js)).length : Int)) _
    rw [e]
  | .alw, _ => rfl
  | .nt f, h => by
    have h : ∀ z ∈ sortT (setT f.recs), (z ∈ ks ↔ z ∈ js) := h
    show (!f.sat ks) = !f.sat js
    rw [sat_on f fun z hz => h z (by rw [sortT_mem, setT_mem]; exact hz)]
  | .bin w' f g, h => by
    have h : ∀ z ∈ sortT (setT (f.recs ++ g.recs)), (z ∈ ks ↔ z ∈ js) := h
    show (if w' = "and" then (f.sat ks && g.sat ks) else if w' = "or" then (f.sat ks || g.sat ks) else (!f.sat ks || g.sat ks)) = (if w' = "and" then (f.sat js && g.sat js) else if w' = "or" then (f.sat js || g.sat js) else (!f.sat js || g.sat js))
    rw [sat_on f fun z hz => h z (by rw [sortT_mem, setT_mem]; exact List.mem_append_left _ hz), sat_on g fun z hz => h z (by rw [sortT_mem, setT_mem]; exact List.mem_append_right _ hz)]
theorem due_iff {f g : Fm} {R : List Str} (hf : ∀ z ∈ f.recs, z ∈ R) (hg : ∀ z ∈ g.recs, z ∈ R) : (∀ ks ∈ subsOf R, f.sat ks = g.sat ks) ↔ ∀ ks, f.sat ks = g.sat ks := by
  refine ⟨fun h ks => ?_, fun h ks _ => h ks⟩
  have h1 := h _ (subs_all (fun z => decide (z ∈ ks)) _ R rfl)
  have m : ∀ z ∈ R, (z ∈ ks ↔ z ∈ R.filter fun z => decide (z ∈ ks)) := fun z hz => by simp [List.mem_filter, hz]
  rw [sat_on f fun z hz => m z (hf z hz), sat_on g fun z hz => m z (hg z hz)]
  exact h1
def spSame (a : Ad) (n : Nat) : Sp := fun vs H Q _ => ∃ f g v1 v2, vs = [v1, v2] ∧ RuAt a H f v1 ∧ RuAt a H g v2 ∧ f.dep < n ∧ g.dep < n ∧ ∀ b H', Same H H' → (b = true ↔ ∀ ks, f.sat ks = g.sat ks) → Q (.bl b) H'
theorem ok_allow_the_same (T : Txt K mg a d) (n : Nat) : FnOk P w K mg base CX0 (n + 2) a.allow_the_same d.allow_the_same ["one", "other"] (spSame a n) := by
  have G_Rule_records := ok_Rule_records (w := w) (base := base) T n
  have G_allows := ok_allows (w := w) (base := base) T n
  have G_subsets : FnOk P w K mg base CX0 1 a.subsets d.subsets ["records"] (spSubsW HO.tup) := ok_subsets T
  refine T.allow_the_same.ok sc_allow_the_same (fun vs H Q E h => ?_) (fun cdv A outer s H vs Q E hr h => ?_)
  · obtain ⟨f, g, v1, v2, rfl, _⟩ := h
    rfl
  · obtain ⟨f, g, v1, v2, rfl, r1, r2, d1, d2, k⟩ := h
    refine ⟨_, (pss_cons (ps_set (i := 2) sc_allow_the_same.nd rfl (Or.inl rfl) (pe_callB (cr_sortTS rfl) (by rfl) T.n_sorted (by decide +kernel) (pa_cons (pe_callTy (cr_setTSL rfl) (by rfl) T.n_set (by decide +kernel) (pa_cons (pe_op op_cat (pe_meth0 (pv 0) T.k_Rule T.m_Rule_records G_Rule_records (hr.mono (by omega)) T.b_Rule_records .nil pass0) (pe_meth0 (pv 1) T.k_Rule T.m_Rule_records G_Rule_records (hr.mono (by omega)) T.b_Rule_records .nil pass0)) pa_nil)) pa_nil)))
  (pss_one (ps_ret (pe_callB (cr_all rfl) (by rfl) T.n_all (by decide +kernel) (pa_cons (pe_lc (own := [("kept", 3)]) (tt := tYes) rfl sc_allow_the_same.nd (pi_list (pe_call G_subsets (hr.mono (by omega)) (by rfl) T.g_subsets T.subsets.kp T.b_subsets .nil pass0 (pa_cons (pv 2) pa_nil))) (blkOk_by (own := [("kept", 3)]) (N := ["one", "other", "records", "kept"]) (sc := defScope s_allow_the_same) (by decide +kernel)) (fun _ _ _ _ _ => (pg_name (i := 3) sc_allow_the_same.nd rfl (Or.inl rfl))) (fun _ _ _ _ _ => pts_nil) (fun _ _ _ _ _ => (pe_cmpR op_eq (pe_call G_allows (hr.mono (by omega)) (by rfl) T.g_allows T.allows.kp T.b_allows .nil pass0 (pa_cons (pe_fldK (K := K) rfl (pv 0) rfl) (pa_cons (pv 3) pa_nil))) (pe_call G_allows (hr.mono (by omega)) (by rfl) T.g_allows T.allows.kp T.b_allows .nil pass0 (pa_cons (pe_fldK (K := K) rfl (pv 1) rfl) (pa_cons (pv 3) pa_nil))) (nomark _)))) pa_nil))))), ?_⟩
    dsimp only [cxOf]
    obtain ⟨p1, x1, y1, e1, h1, f1, o1⟩ := id r1
    obtain ⟨p2, x2, y2, e2, h2, f2, o2⟩ := id r2
    subst e1 e2
    have c1 := T.k_Rule
    have n1 := T.na_Rule_form
    have l1 := o1.len
    have l2 := o2.len
    have l3 : (f.recs.map V.str).length + (g.recs.map V.str).length ≤ sizeLine := by rw [List.length_map, List.length_map, sizeLine_eq]; omega
    have l4 : (f.recs ++ g.recs).length + 1 < scanBound := by
      have : scanBound = 4096 := rfl
      rw [List.length_append]; omega
    walk_at "rd"
    refine ⟨f, _, rfl, r1, d1, fun H3 q3 s3 h3 _ => ?_⟩
    have h23 := s3 _ _ h2
    walk_at "rd"
    refine ⟨g, _, rfl, r2.im s3.im, d2, fun H4 q4 s4 h4 _ => ?_⟩
    have h34 := s4 _ _ h3
    have s4 := s3.trans s4
    walk_at "rd"
    intro q5 hq5
    rw [← List.map_append]
    have s5 := s4.new (o := .lst ((f.recs ++ g.recs).map V.str)) hq5
    have h5 := upd_same (H := H4) (a := q5) (o := .lst ((f.recs ++ g.recs).map V.str))
    generalize upd H4 q5 (.lst ((f.recs ++ g.recs).map V.str)) = H5 at s5 h5 ⊢
    walk_at "rd"
    intro q6 hq6
    have s6 := s5.new (o := TSO w q6 (setT (f.recs ++ g.recs))) hq6
    have h6 := upd_same (H := H5) (a := q6) (o := TSO w q6 (setT (f.recs ++ g.recs)))
    generalize upd H5 q6 (TSO w q6 (setT (f.recs ++ g.recs))) = H6 at s6 h6 ⊢
    refine ⟨q6, _, rfl, h6, fun q7 hq7 => ?_⟩
    have s7 := s6.new (o := .lst ((sortT (setT (f.recs ++ g.recs))).map V.str)) hq7
    have h7 := upd_same (H := H6) (a := q7) (o := .lst ((sortT (setT (f.recs ++ g.recs))).map V.str))
    generalize upd H6 q7 (.lst ((sortT (setT (f.recs ++ g.recs))).map V.str)) = H7 at s7 h7 ⊢
    have ls : (sortT (setT (f.recs ++ g.recs))).length ≤ 13 := by
      have := setT_len (xs := f.recs ++ g.recs)
      rw [List.length_append] at this
      rw [sortT_len]; omega
    have mf : ∀ z ∈ f.recs, z ∈ sortT (setT (f.recs ++ g.recs)) := fun z hz => by rw [sortT_mem, setT_mem]; exact List.mem_append_left _ hz
    have mg' : ∀ z ∈ g.recs, z ∈ sortT (setT (f.recs ++ g.recs)) := fun z hz => by rw [sortT_mem, setT_mem]; exact List.mem_append_right _ hz
    generalize sortT (setT (f.recs ++ g.recs)) = R at h7 ls mf mg' ⊢
    walk_at "rd"
    intro H8 r8 ps s8 hr8 e8 hps
    have pl : ps.length ≤ 8192 := by
      have h1 := (subs_len _ R rfl).1
      rw [← e8, List.length_map] at h1
      rw [h1]; exact pow13 ls
    have s8 := s7.trans s8
    refine ⟨_, rfl, ⟨_, SqL.of hr8⟩, ?_⟩
    intro S hS
    refine lc_list (xs := ps.map fun e => V.ref e.1) (fun j H' => Same H8 H' ∧ H' S = some (.lst (((ps.take j).map fun e => decide (f.sat e.2 = g.sat e.2)).map V.bl))) ?_ ?_ ?_ ?_
    · exact ⟨(Same.refl _).new hS, upd_same⟩
    · rintro j H' _ ⟨s9, _⟩
      exact SqL.of (s9 _ _ hr8)
    · rintro j v H9 hv ⟨s9, hS9⟩
      rw [List.getElem?_map] at hv
      obtain ⟨e, hx, rfl⟩ : ∃ e, ps[j]? = some e ∧ v = .ref e.1 := by
        cases e : ps[j]? with
        | none => rw [e] at hv; cases hv
        | some x => rw [e] at hv; cases hv; exact ⟨x, rfl, rfl⟩
      have hj : j < ps.length := (List.getElem?_eq_some_iff.mp hx).1
      have hk9 := s9 _ _ (hps e (List.mem_of_getElem? hx))
      have h19 := s9 _ _ (s8 _ _ h1)
      have h29 := s9 _ _ (s8 _ _ h2)
      have f19 := f1.im (s8.trans s9).im
      have f29 := f2.im (s8.trans s9).im
      walk_at "rd"
      refine ⟨f, y1, e.1, e.2, rfl, d1, o1, f19, .inr (SqT.of hk9), fun H10 s10 => ?_⟩
      have h2a := s10 _ _ h29
      walk_at "rd"
      refine ⟨g, y2, e.1, e.2, rfl, d2, o2, f29.im s10.im, .inr (SqT.of (s10 _ _ hk9)), fun H11 s11 => ?_⟩
      have hS11 := s11 _ _ (s10 _ _ hS9)
      dsimp only [rEq]
      refine ⟨by first | rfl | trivial | exact ⟨rfl, rfl⟩, _, hS11, by rw [List.length_map, List.length_map, List.length_take, sizeLine_eq]; omega, ((s9.trans s10).trans s11).frsh hS, ?_⟩
      rw [upd_same, List.take_add_one, hx, List.map_append, List.map_append]
      have eb : decide (V.bl (f.sat e.2) = V.bl (g.sat e.2)) = decide (f.sat e.2 = g.sat e.2) := decide_eq_decide.mpr ⟨fun z => V.bl.inj z, fun z => congrArg V.bl z⟩
      rw [eb]; rfl
    · rintro H9 ⟨s9, hS9⟩
      rw [List.length_map, List.take_length] at hS9
      walk_at "rd"
      refine k _ _ (s8.trans s9) ?_
      rw [← due_iff mf mg', List.all_eq_true, ← e8]
      simp only [List.mem_map, id_eq, forall_exists_index, and_imp, forall_apply_eq_imp_iff₂, decide_eq_true_eq]
/-- what == is asked with at the right -/
def spEqR (a : Ad) (n : Nat) : Sp := fun vs H Q _ => ∃ f v1 v2, vs = [v1, v2] ∧ RuAt a H f v1 ∧ f.dep < n ∧
  ((∃ g, RuAt a H g v2 ∧ g.dep < n ∧ ∀ b H', Same H H' → (b = true ↔ ∀ ks, f.sat ks = g.sat ks) → Q (.bl b) H') ∨ (((∃ z, v2 = .str z) ∨ v2 = .non ∨ ∃ q xs, v2 = .ref q ∧ H q = some (.tup xs)) ∧ Q (.bl false) H))
theorem ok_RuleU_eqU (T : Txt K mg a d) (n : Nat) : FnOk P w K mg base CX0 (n + 3) a.RuleU_eqU d.RuleU_eqU ["self", "other"] (spEqR a n) := by
  have G_allow_the_same := ok_allow_the_same (w := w) (base := base) T n
  refine T.RuleU_eqU.ok sc_RuleU_eqU (fun vs H Q E h => ?_) (fun cdv A outer s H vs Q E hr h => ?_)
  · obtain ⟨f, v1, v2, rfl, _⟩ := h
    rfl
  · obtain ⟨f, v1, v2, rfl, r1, d1, h⟩ := h
    refine ⟨_, (pss_one (ps_ret (pe_and (pe_callB call_isi (by rfl) T.n_isinstance (by decide +kernel) (pa_cons (pv 1) (pa_cons (pe_glob (v := .ref a.Rule) (by rfl) T.g_Rule rfl) pa_nil))) (pe_one (pe_call G_allow_the_same (hr.mono (by omega)) (by rfl) T.g_allow_the_same T.allow_the_same.kp T.b_allow_the_same .nil pass0 (pa_cons (pv 0) (pa_cons (pv 1) pa_nil))))))), ?_⟩
    dsimp only [cxOf]
    have ec := T.eq_Rule
    rcases h with ⟨g, r2, d2, k⟩ | ⟨h, k⟩
    · obtain ⟨p2, x2, y2, e2, h2, f2, o2⟩ := id r2
      subst e2
      have hty : TyX K H (.ref p2) (.ref a.Rule) := .base (.ins h2 T.k_Rule ec.ha ec.hn ec.ht ec.hm)
      have hcl : ClsV (.ref a.Rule) (.ref a.Rule) := .own _
      have hkk := ec.kO
      clear ec
      walk_at "rd"
      exact ⟨f, g, _, _, rfl, r1, r2, d1, d2, k⟩
    · have hc : ∃ t, TyX K H v2 t ∧ PySem.W.kitOne K t (.ref a.Rule) = some false := by
        rcases h with ⟨z, rfl⟩ | rfl | ⟨q, xs, rfl, hq⟩
        · exact ⟨_, .base (.str z), ec.kS⟩
        · exact ⟨_, .base .non, ec.kN⟩
        · exact ⟨_, .base (.tup hq), ec.kT⟩
      obtain ⟨t, ht, hk⟩ := hc
      have hcl : ClsV (.ref a.Rule) (.ref a.Rule) := .own _
      clear ec
      walk_at "rd"
      exact k
/-! ### k16: steps over rules -/
/-- a rule over the words ws -/
def RuW (a : Ad) (ws : List Str) (H : Hp) (f : Fm) (v : V) : Prop := RuAt a H f v ∧ ∀ z ∈ f.recs, z ∈ ws
theorem RuW.same {a : Ad} {ws : List Str} {H H' : Hp} {f : Fm} {v : V} (h : RuW a ws H f v) (s : Same H H') : RuW a ws H' f v := ⟨h.1.im s.im, h.2⟩
theorem RuW.few {f g : Fm} {ws : List Str} (h1 : ∀ z ∈ f.recs, z ∈ ws) (h2 : ∀ z ∈ g.recs, z ∈ ws) (l : ws.length ≤ 6) : (setT (f.recs ++ g.recs)).length ≤ 6 :=
  Nat.le_trans (nd_sub_len setT_nd fun z hz => by
    rw [setT_mem] at hz
    rcases List.mem_append.mp hz with hz | hz
    · exact h1 z hz
    · exact h2 z hz) l
theorem st_bin {a : Ad} {ws : List Str} {n : Nat} {w' : Str} {H : Hp} {f g : Fm} {x y : V} {Q : VK} {E : XK} (h1 : RuW a ws H f x) (h2 : RuW a ws H g y) (d1 : f.dep < n) (d2 : g.dep < n) (l : ws.length ≤ 6) (k : ∀ H' r, Same H H' → RuW a ws H' (.bin w' f g) r → Q r H') : rOwn a.Rule (spBin a n w') E x y H Q := by
  obtain ⟨p1, x1, y1, rfl, q1, _⟩ := id h1.1
  obtain ⟨p2, x2, y2, rfl, q2, _⟩ := id h2.1
  refine ⟨p1, p2, _, _, _, _, rfl, rfl, q1, q2, f, g, _, _, rfl, h1.1, h2.1, d1, d2, ?_⟩
  rw [if_neg (by have := RuW.few h1.2 h2.2 l; omega)]
  intro H' r s' r'
  refine ⟨by obtain ⟨p, _, _, e, _⟩ := r'; exact ⟨p, e⟩, k H' r s' ⟨r', fun z hz => ?_⟩⟩
  have hz : z ∈ sortT (setT (f.recs ++ g.recs)) := hz
  rw [sortT_mem, setT_mem] at hz
  rcases List.mem_append.mp hz with hz | hz
  · exact h1.2 z hz
  · exact h2.2 z hz
theorem st_eq {K : PySem.W.Frag} {a : Ad} {n : Nat} {H : Hp} {f g : Fm} {x y : V} {Q : VK} (h1 : RuAt a H f x) (h2 : RuAt a H g y) (d1 : f.dep < n) (d2 : g.dep < n) (k : ∀ b H', Same H H' → (b = true ↔ ∀ ks, f.sat ks = g.sat ks) → Q (.bl b) H') : rEqO K a.Rule (spEqR a n) x y H Q := by
  obtain ⟨p1, x1, y1, rfl, q1, _⟩ := id h1
  obtain ⟨p2, x2, y2, rfl, q2, _⟩ := id h2
  exact ⟨p1, _, _, rfl, q1, .ins q2, f, _, _, rfl, h1, d1, .inl ⟨g, h2, d2, fun b H' s' e => ⟨b, rfl, k b H' s' e⟩⟩⟩
theorem st_ne {K : PySem.W.Frag} {a : Ad} {n : Nat} {H : Hp} {f g : Fm} {x y : V} {Q : VK} (h1 : RuAt a H f x) (h2 : RuAt a H g y) (d1 : f.dep < n) (d2 : g.dep < n) (k : ∀ b H', Same H H' → (b = true ↔ ∀ ks, f.sat ks = g.sat ks) → Q (.bl !b) H') : rNeO K a.Rule (spEqR a n) x y H Q := by
  obtain ⟨p1, x1, y1, rfl, q1, _⟩ := id h1
  obtain ⟨p2, x2, y2, rfl, q2, _⟩ := id h2
  exact ⟨p1, _, _, rfl, q1, .ins q2, f, _, _, rfl, h1, d1, .inl ⟨g, h2, d2, fun b H' s' e => ⟨b, rfl, k b H' s' e⟩⟩⟩
theorem st_eqS {K : PySem.W.Frag} {a : Ad} {n : Nat} {H : Hp} {f : Fm} {x : V} {z : Str} {Q : VK} (c : EqC K a.Rule) (h1 : RuAt a H f x) (d1 : f.dep < n) (k : Q (.bl false) H) : rEqO K a.Rule (spEqR a n) x (.str z) H Q := by
  obtain ⟨p1, x1, y1, rfl, q1, _⟩ := id h1
  exact ⟨p1, _, _, rfl, q1, .str z c.nS, f, _, _, rfl, h1, d1, .inr ⟨.inl ⟨z, rfl⟩, false, rfl, k⟩⟩
theorem st_eqN {K : PySem.W.Frag} {a : Ad} {n : Nat} {H : Hp} {f : Fm} {x : V} {Q : VK} (c : EqC K a.Rule) (h1 : RuAt a H f x) (d1 : f.dep < n) (k : Q (.bl false) H) : rEqO K a.Rule (spEqR a n) x .non H Q := by
  obtain ⟨p1, x1, y1, rfl, q1, _⟩ := id h1
  exact ⟨p1, _, _, rfl, q1, .non c.nN, f, _, _, rfl, h1, d1, .inr ⟨.inr (.inl rfl), false, rfl, k⟩⟩
theorem st_eqT {K : PySem.W.Frag} {a : Ad} {n : Nat} {H : Hp} {f : Fm} {x : V} {q : Addr} {xs : List V} {Q : VK} (c : EqC K a.Rule) (h1 : RuAt a H f x) (d1 : f.dep < n) (h2 : H q = some (.tup xs)) (k : Q (.bl false) H) : rEqO K a.Rule (spEqR a n) x (.ref q) H Q := by
  obtain ⟨p1, x1, y1, rfl, q1, _⟩ := id h1
  exact ⟨p1, _, _, rfl, q1, .tup h2 c.nT, f, _, _, rfl, h1, d1, .inr ⟨.inr (.inr ⟨q, xs, rfl, h2⟩), false, rfl, k⟩⟩
theorem st_inv {a : Ad} {ws : List Str} {H : Hp} {f : Fm} {x : V} {Q : VK} {E : XK} (h1 : RuW a ws H f x) (k : ∀ H' r, Same H H' → RuW a ws H' (.nt f) r → Q r H') : rUOwn a.Rule (spInv a) E x H Q := by
  obtain ⟨p1, x1, y1, rfl, q1, _⟩ := id h1.1
  refine ⟨p1, _, _, rfl, q1, f, _, rfl, h1.1, fun H' r s' r' => k H' r s' ⟨r', fun z hz => ?_⟩⟩
  have hz : z ∈ sortT (setT f.recs) := hz
  rw [sortT_mem, setT_mem] at hz
  exact h1.2 z hz
/-- a rule that the walk leaves closed -/
def rF (r : R2) : R2 := fun x y H Q => r x y H Q ∨ False
theorem op_F {X : Cx} {op : Value → Value → Sem Value} {r : R2} (h : OpR X op r) : OpR X op (rF r) := fun pins s σ H x y v u Q I rx ry k => h pins s σ H x y v u Q I rx ry (k.elim id False.elim)
def rF1 (r : V → Hp → VK → Prop) : V → Hp → VK → Prop := fun x H Q => r x H Q ∨ False
theorem un_F {X : Cx} {op : Value → Sem Value} {r : V → Hp → VK → Prop} (h : UnR X op r) : UnR X op (rF1 r) := fun pins s σ H x v Q I rx k => h pins s σ H x v Q I rx (k.elim id False.elim)
theorem sat_and (ks : List Str) (f g : Fm) : (Fm.bin "and" f g).sat ks = (f.sat ks && g.sat ks) := by
  show (if ("and" : Str) = "and" then _ else _) = _
  rw [if_pos rfl]
theorem sat_or (ks : List Str) (f g : Fm) : (Fm.bin "or" f g).sat ks = (f.sat ks || g.sat ks) := by
  show (if ("or" : Str) = "and" then _ else if ("or" : Str) = "or" then _ else _) = _
  rw [if_neg (by decide +kernel), if_pos rfl]
theorem sat_needs (ks : List Str) (f g : Fm) : (Fm.bin "needs" f g).sat ks = (!f.sat ks || g.sat ks) := by
  show (if ("needs" : Str) = "and" then _ else if ("needs" : Str) = "or" then _ else _) = _
  rw [if_neg (by decide +kernel), if_neg (by decide +kernel)]
theorem sat_nt (ks : List Str) (f : Fm) : (Fm.nt f).sat ks = !f.sat ks := rfl
theorem sat_alw (ks : List Str) : Fm.alw.sat ks = true := rfl
theorem sort1 (z : Str) : sortT (setT [z]) = [z] := List.mergeSort_singleton z
theorem sat_tog1 (ks : List Str) (z : Str) : (Fm.tog (sortT (setT [z]))).sat ks = true := by
  rw [sort1]
  show inV (.int (([z].filter fun z => decide (z ∈ ks)).length : Int)) [.int 0, .int (([z].length : Int) + 1 - 1)] = true
  by_cases h : z ∈ ks
  · rw [show ([z].filter fun z => decide (z ∈ ks)) = [z] by simp [h]]; rfl
  · rw [show ([z].filter fun z => decide (z ∈ ks)) = [] by simp [h]]; rfl
theorem cut_to {xs : List V} {k : Nat} : cutV xs none (some (k : Int)) = xs.take k := by
  unfold cutV
  rw [HT.sIx_none, HT.sIx_nat, List.drop_zero, Nat.sub_zero]
  simp
theorem cut_from5 {W : List Str} (h : 4 ≤ W.length) : ∃ ws, cutV (W.map V.str) (some ((W.length : Int) - 5)) none = ws.map V.str ∧ ws ≠ [] ∧ ws.length ≤ 6 ∧ ∀ z ∈ ws, z ∈ W := by
  unfold cutV
  rw [HT.sIx_none, List.length_map]
  have e : ∃ k, HT.sIx W.length 0 (some ((W.length : Int) - 5)) = k ∧ k < W.length ∧ W.length - k ≤ 5 := by
    refine ⟨_, rfl, ?_⟩
    show (if (W.length : Int) - 5 < 0 then ((W.length : Int) - 5 + (W.length : Int)).toNat else min ((W.length : Int) - 5).toNat W.length) < _ ∧ _ - (if (W.length : Int) - 5 < 0 then ((W.length : Int) - 5 + (W.length : Int)).toNat else min ((W.length : Int) - 5).toNat W.length) ≤ 5
    split <;> omega
  obtain ⟨k, e, h1, h2⟩ := e
  rw [e]
  refine ⟨(W.drop k).take (W.length - k), by rw [List.map_take, List.map_drop], fun z => ?_, ?_, fun z hz => List.mem_of_mem_drop (List.mem_of_mem_take hz)⟩
  · have := congrArg List.length z
    rw [List.length_take, List.length_drop, List.length_nil] at this
    omega
  · rw [List.length_take, List.length_drop]; omega
theorem NdAt.isT {pp : Addr} {H : Hp} : ∀ {f : Fm} {v : V}, NdAt pp H f v → ∃ q xs, v = .ref q ∧ H q = some (.tup xs)
  | .has z, _, h => by obtain ⟨p, e, h⟩ := h; exact ⟨p, _, e, h⟩
  | .tog zs, _, h => by obtain ⟨p, q, e, h, _⟩ := h; exact ⟨p, _, e, h⟩
  | .alw, _, h => by obtain ⟨p, e, h⟩ := h; exact ⟨p, _, e, h⟩
  | .nt f, _, h => by obtain ⟨p, x, e, h, _⟩ := h; exact ⟨p, _, e, h⟩
  | .bin w f g, _, h => by obtain ⟨p, x, y, e, h, _⟩ := h; exact ⟨p, _, e, h⟩
/-! ### k16: the law -/
def spLaw (K : PySem.W.Frag) : Sp := fun vs H Q _ => ∃ (p : Addr) (ns : List Int), vs = [.ref p] ∧ SqL K H p (ns.map V.int) ∧ ns.length ≤ 63 ∧ ∀ H', Q (.bl true) H'
/-- the pool and what else stands -/
structure P14 (H0 H : Hp) (p : Addr) (c : Nat) : Prop where
  same : Same H0 H
  pool : ∃ o, H p = some o ∧ PoolO o c
  fr : H0 p = none
theorem P14.keep {H0 H H' : Hp} {p : Addr} {c : Nat} (h : P14 H0 H p c) (s : Same H H') : P14 H0 H' p c := by
  obtain ⟨o, h1, h2⟩ := h.pool
  exact ⟨h.same.trans s, ⟨o, s _ _ h1, h2⟩, h.fr⟩
theorem P14.draw {H0 H H' : Hp} {p : Addr} {c c' : Nat} {o' : HO} (h : P14 H0 H p c) (k : Kp (fun b => b = p) H H') (hp : H' p = some o') (ho : PoolO o' c') : P14 H0 H' p c' :=
  ⟨Kp.same h.same k fun b e => e ▸ h.fr, ⟨o', hp, ho⟩, h.fr⟩
theorem P14.im {H0 H H' : Hp} {p : Addr} {c : Nat} (h : P14 H0 H p c) (k : Kp (fun b => b = p) H H') : Im H H' := by
  obtain ⟨o, h1, h2⟩ := h.pool
  exact im_pool h1 h2 k
theorem P14.up {H0 H : Hp} {p : Addr} {c c' : Nat} (h : P14 H0 H p c) (l : c ≤ c') : P14 H0 H p c' := by
  obtain ⟨o, h1, h2⟩ := h.pool
  exact ⟨h.same, ⟨o, h1, h2.mono l⟩, h.fr⟩
theorem P14.ik {H0 H H' : Hp} {p : Addr} {c : Nat} (h : P14 H0 H p c) (k : Kp (fun b => b = p) H H') : Ik p H H' := by
  obtain ⟨o, h1, h2⟩ := h.pool
  exact ik_pool h1 h2 k
theorem ok_law (T : Txt K mg a d) : FnOk P w K mg base CX0 22 a.law d.law ["_law_script"] (spLaw K) := by
  have G_law_pool : FnOk P w K mg base CX0 1 a.law_pool d.law_pool ["_law_script", "_law_at"] (spPool K) := ok_law_pool T
  have G_law_draw : FnOk P w K mg base CX0 1 a.law_draw d.law_draw ["_law_pool_here", "_law_many"] spDraw := ok_law_draw T
  have G_law_word : FnOk P w K mg base CX0 2 a.law_word d.law_word ["_law_pool_here"] spWord := ok_law_word T
  have G_law_built := ok_law_built (w := w) (base := base) T 5
  have G_law_built4 := ok_law_built (w := w) (base := base) T 4
  have G_law_allows := ok_law_allows (w := w) (base := base) T 5
  have G_law_subsets : FnOk P w K mg base CX0 1 a.law_subsets d.law_subsets ["_law_records"] (spSubsW HO.lst) := ok_law_subsets T
  have G_RuleU_eqU := ok_RuleU_eqU (w := w) (base := base) T 9
  have G_RuleU_andU := ok_RuleU_andU (w := w) (base := base) T 9
  have G_RuleU_orU := ok_RuleU_orU (w := w) (base := base) T 9
  have G_RuleU_rshiftU := ok_RuleU_rshiftU (w := w) (base := base) T 9
  have G_RuleU_invertU : FnOk P w K mg base CX0 3 a.RuleU_invertU d.RuleU_invertU ["self"] (spInv a) := ok_RuleU_invertU T
  have G_RuleU_strU := ok_RuleU_strU (w := w) (base := base) T 5
  have R_Rule_always := r_Rule_always (w := w) (base := base) T
  have R_Rule_together := ok_Rule_together (w := w) (base := base) T
  refine T.law.ok sc_law (fun vs H Q E h => ?_) (fun cdv A outer s H vs Q E hr h => ?_)
  · obtain ⟨p, ns, rfl, _⟩ := h
    rfl
  · obtain ⟨sa, ns, rfl, hS, hl, k⟩ := h
    refine ⟨_, (pss_cons (ps_for PassesOwn.never rfl (pi_range1 (by rfl) T.n_range (pa_cons (pe_callB (call_max2 rfl) (by rfl) T.n_max (by decide +kernel) (pa_cons pe_int (pa_cons (pe_callB (call_min2 rfl) (by rfl) T.n_min (by decide +kernel) (pa_cons pe_int (pa_cons (pe_callB call_len_seq (by rfl) T.n_len PySem.boot_len (pa_cons (pv 0) pa_nil)) pa_nil))) pa_nil))) pa_nil)) (pg_name (i := 1) sc_law.nd rfl (Or.inl rfl))
  (pss_cons (ps_set (i := 2) sc_law.nd rfl (Or.inr rfl) (pe_call G_law_pool (hr.mono (by decide)) (by rfl) T.g_law_pool T.law_pool.kp T.b_law_pool .nil pass0 (pa_cons (pv 0) (pa_cons (pv 1) pa_nil))))
  (pss_cons (ps_setLc (i := 3) (own := [("_law_k", 14)]) (tt := tYes) rfl sc_law.nd rfl rfl (sw_true rfl rfl rfl (by decide +kernel)) (pi_range1 (by rfl) T.n_range (pa_cons (pe_op op_add pe_int (pe_call G_law_draw (hr.mono (by decide)) (by rfl) T.g_law_draw T.law_draw.kp T.b_law_draw .nil pass0 (pa_cons (pv 2) (pa_cons pe_int pa_nil)))) pa_nil)) (blkOk_by (own := [("_law_k", 14)]) (N := ["_law_script", "_law_at", "_law_pool_here", "_law_records", "_law_one", "_law_first", "_law_other", "_law_second", "_law_due", "_law_some", "_law_same", "_law_words", "_law_far", "_law_third", "_law_k"]) (sc := defScope s_law) (by decide +kernel)) (fun _ _ _ _ _ => (pg_name (i := 14) sc_law.nd rfl (Or.inl rfl))) (fun _ _ _ _ _ => pts_nil) (fun _ _ _ _ _ => (pe_call G_law_word (hr.mono (by decide)) (by rfl) T.g_law_word T.law_word.kp T.b_law_word .nil pass0 (pa_cons (pv 2) pa_nil))))
  (pss_cons (ps_asg (pe_call G_law_built (hr.mono (by decide)) (by rfl) T.g_law_built T.law_built.kp T.b_law_built .nil pass0 (pa_cons (pv 2) (pa_cons (pv 3) (pa_cons pe_int pa_nil)))) (pg_tup rfl (pgs_cons (pg_name (i := 4) sc_law.nd rfl (Or.inl rfl)) (pgs_cons (pg_name (i := 5) sc_law.nd rfl (Or.inl rfl)) pgs_nil))))
  (pss_cons (ps_asg (pe_call G_law_built (hr.mono (by decide)) (by rfl) T.g_law_built T.law_built.kp T.b_law_built .nil pass0 (pa_cons (pv 2) (pa_cons (pv 3) (pa_cons pe_int pa_nil)))) (pg_tup rfl (pgs_cons (pg_name (i := 6) sc_law.nd rfl (Or.inl rfl)) (pgs_cons (pg_name (i := 7) sc_law.nd rfl (Or.inl rfl)) pgs_nil))))
  (pss_cons (ps_set (i := 8) sc_law.nd rfl (Or.inl rfl) pe_bl)
  (pss_cons (ps_for PassesOwn.never rfl (pi_list (pe_call G_law_subsets (hr.mono (by decide)) (by rfl) T.g_law_subsets T.law_subsets.kp T.b_law_subsets .nil pass0 (pa_cons (pe_callB (cr_sortTS rfl) (by rfl) T.n_sorted (by decide +kernel) (pa_cons (pe_callTy (cr_setTSL rfl) (by rfl) T.n_set (by decide +kernel) (pa_cons (pv 3) pa_nil)) pa_nil)) pa_nil))) (pg_name (i := 9) sc_law.nd rfl (Or.inl rfl))
  (pss_one (ps_set (i := 8) sc_law.nd rfl (Or.inl rfl) (pe_and (pv 8) (pe_one (pe_cmpR op_eq (pe_call G_law_allows (hr.mono (by decide)) (by rfl) T.g_law_allows T.law_allows.kp T.b_law_allows .nil pass0 (pa_cons (pv 5) (pa_cons (pv 9) pa_nil))) (pe_call G_law_allows (hr.mono (by decide)) (by rfl) T.g_law_allows T.law_allows.kp T.b_law_allows .nil pass0 (pa_cons (pv 7) (pa_cons (pv 9) pa_nil))) (nomark _)))))))
  (pss_cons (ps_if (PW.pt (pw_or (pt_cmpR op_ne (pe_cmpR (op_F (op_eqOwn (T.m_RuleU_eqU.at_) (T.m_RuleU_eqU.fn) G_RuleU_eqU (hr.mono (by decide)) T.b_RuleU_eqU)) (pv 4) (pv 6) (nomark _)) (pv 8) (nomark _)) (pw_or (pt_cmpR op_ne (pe_cmpR (op_F (op_eqOwn (T.m_RuleU_eqU.at_) (T.m_RuleU_eqU.fn) G_RuleU_eqU (hr.mono (by decide)) T.b_RuleU_eqU)) (pv 6) (pv 4) (nomark _)) (pv 8) (nomark _)) (pw_or1 (pt_cmpR op_eq (pe_cmpR (op_F (op_neOwn T.eq_Rule (T.m_RuleU_eqU.at_) (T.m_RuleU_eqU.fn) G_RuleU_eqU (hr.mono (by decide)) T.b_RuleU_eqU)) (pv 4) (pv 6) (nomark _)) (pv 8) (nomark _)))))) (pss_one (ps_ret pe_bl)) pss_nil)
  (pss_cons (ps_set (i := 10) sc_law.nd rfl (Or.inl rfl) (pe_lst (pa_cons (pe_cmpR (op_F (op_eqOwn (T.m_RuleU_eqU.at_) (T.m_RuleU_eqU.fn) G_RuleU_eqU (hr.mono (by decide)) T.b_RuleU_eqU)) (pv 4) (pv 4) (nomark _)) (pa_cons (pe_cmpR (op_F (op_eqOwn (T.m_RuleU_eqU.at_) (T.m_RuleU_eqU.fn) G_RuleU_eqU (hr.mono (by decide)) T.b_RuleU_eqU)) (pe_op (op_F (op_own (T.m_RuleU_rshiftU.at_) (T.m_RuleU_rshiftU.fn) T.sf_Rule G_RuleU_rshiftU (hr.mono (by decide)) T.b_RuleU_rshiftU passL)) (pv 4) (pv 6)) (pe_op (op_F (op_own (T.m_RuleU_orU.at_) (T.m_RuleU_orU.fn) T.sf_Rule G_RuleU_orU (hr.mono (by decide)) T.b_RuleU_orU passL)) (pe_un (un_F (un_own (T.m_RuleU_invertU.at_) (T.m_RuleU_invertU.fn) G_RuleU_invertU (hr.mono (by decide)) T.b_RuleU_invertU pass0)) (pv 4)) (pv 6)) (nomark _)) (pa_cons (pe_cmpR (op_F (op_eqOwn (T.m_RuleU_eqU.at_) (T.m_RuleU_eqU.fn) G_RuleU_eqU (hr.mono (by decide)) T.b_RuleU_eqU)) (pe_un (un_F (un_own (T.m_RuleU_invertU.at_) (T.m_RuleU_invertU.fn) G_RuleU_invertU (hr.mono (by decide)) T.b_RuleU_invertU pass0)) (pe_un (un_F (un_own (T.m_RuleU_invertU.at_) (T.m_RuleU_invertU.fn) G_RuleU_invertU (hr.mono (by decide)) T.b_RuleU_invertU pass0)) (pv 4))) (pv 4) (nomark _)) (pa_cons (pe_cmpR (op_F (op_eqOwn (T.m_RuleU_eqU.at_) (T.m_RuleU_eqU.fn) G_RuleU_eqU (hr.mono (by decide)) T.b_RuleU_eqU)) (pe_op (op_F (op_own (T.m_RuleU_andU.at_) (T.m_RuleU_andU.fn) T.sf_Rule G_RuleU_andU (hr.mono (by decide)) T.b_RuleU_andU passL)) (pv 4) (pv 6)) (pe_un (un_F (un_own (T.m_RuleU_invertU.at_) (T.m_RuleU_invertU.fn) G_RuleU_invertU (hr.mono (by decide)) T.b_RuleU_invertU pass0)) (pe_op (op_F (op_own (T.m_RuleU_orU.at_) (T.m_RuleU_orU.fn) T.sf_Rule G_RuleU_orU (hr.mono (by decide)) T.b_RuleU_orU passL)) (pe_un (un_F (un_own (T.m_RuleU_invertU.at_) (T.m_RuleU_invertU.fn) G_RuleU_invertU (hr.mono (by decide)) T.b_RuleU_invertU pass0)) (pv 4)) (pe_un (un_F (un_own (T.m_RuleU_invertU.at_) (T.m_RuleU_invertU.fn) G_RuleU_invertU (hr.mono (by decide)) T.b_RuleU_invertU pass0)) (pv 6)))) (nomark _)) pa_nil))))))
  (pss_cons (ps_set (i := 10) sc_law.nd rfl (Or.inl rfl) (pe_op op_cat (pv 10) (pe_lst (pa_cons (pe_cmpR (op_F (op_eqOwn (T.m_RuleU_eqU.at_) (T.m_RuleU_eqU.fn) G_RuleU_eqU (hr.mono (by decide)) T.b_RuleU_eqU)) (pe_op (op_F (op_own (T.m_RuleU_andU.at_) (T.m_RuleU_andU.fn) T.sf_Rule G_RuleU_andU (hr.mono (by decide)) T.b_RuleU_andU passL)) (pv 4) (pv 6)) (pe_op (op_F (op_own (T.m_RuleU_andU.at_) (T.m_RuleU_andU.fn) T.sf_Rule G_RuleU_andU (hr.mono (by decide)) T.b_RuleU_andU passL)) (pv 6) (pv 4)) (nomark _)) (pa_cons (pe_cmpR (op_F (op_eqOwn (T.m_RuleU_eqU.at_) (T.m_RuleU_eqU.fn) G_RuleU_eqU (hr.mono (by decide)) T.b_RuleU_eqU)) (pe_op (op_F (op_own (T.m_RuleU_orU.at_) (T.m_RuleU_orU.fn) T.sf_Rule G_RuleU_orU (hr.mono (by decide)) T.b_RuleU_orU passL)) (pv 4) (pv 6)) (pe_op (op_F (op_own (T.m_RuleU_orU.at_) (T.m_RuleU_orU.fn) T.sf_Rule G_RuleU_orU (hr.mono (by decide)) T.b_RuleU_orU passL)) (pv 6) (pv 4)) (nomark _)) (pa_cons (pe_cmpR (op_F (op_eqOwn (T.m_RuleU_eqU.at_) (T.m_RuleU_eqU.fn) G_RuleU_eqU (hr.mono (by decide)) T.b_RuleU_eqU)) (pe_op (op_F (op_own (T.m_RuleU_andU.at_) (T.m_RuleU_andU.fn) T.sf_Rule G_RuleU_andU (hr.mono (by decide)) T.b_RuleU_andU passL)) (pv 4) (pe_smethR0 (pe_glob (v := .ref a.Rule) (by rfl) T.g_Rule rfl) T.r_Rule T.s_Rule_always R_Rule_always (hr.mono (by decide)) T.Rule_always.kp pass0)) (pv 4) (nomark _)) pa_nil))))))
  (pss_cons (ps_set (i := 10) sc_law.nd rfl (Or.inl rfl) (pe_op op_cat (pv 10) (pe_lst (pa_cons (pe_cmpR (op_F (op_eqOwn (T.m_RuleU_eqU.at_) (T.m_RuleU_eqU.fn) G_RuleU_eqU (hr.mono (by decide)) T.b_RuleU_eqU)) (pe_op (op_F (op_own (T.m_RuleU_orU.at_) (T.m_RuleU_orU.fn) T.sf_Rule G_RuleU_orU (hr.mono (by decide)) T.b_RuleU_orU passL)) (pv 4) (pe_smethR0 (pe_glob (v := .ref a.Rule) (by rfl) T.g_Rule rfl) T.r_Rule T.s_Rule_always R_Rule_always (hr.mono (by decide)) T.Rule_always.kp pass0)) (pe_smethR0 (pe_glob (v := .ref a.Rule) (by rfl) T.g_Rule rfl) T.r_Rule T.s_Rule_always R_Rule_always (hr.mono (by decide)) T.Rule_always.kp pass0) (nomark _)) (pa_cons (pe_cmpR (op_F (op_eqOwn (T.m_RuleU_eqU.at_) (T.m_RuleU_eqU.fn) G_RuleU_eqU (hr.mono (by decide)) T.b_RuleU_eqU)) (pe_op (op_F (op_own (T.m_RuleU_andU.at_) (T.m_RuleU_andU.fn) T.sf_Rule G_RuleU_andU (hr.mono (by decide)) T.b_RuleU_andU passL)) (pv 4) (pe_un (un_F (un_own (T.m_RuleU_invertU.at_) (T.m_RuleU_invertU.fn) G_RuleU_invertU (hr.mono (by decide)) T.b_RuleU_invertU pass0)) (pv 4))) (pe_un (un_F (un_own (T.m_RuleU_invertU.at_) (T.m_RuleU_invertU.fn) G_RuleU_invertU (hr.mono (by decide)) T.b_RuleU_invertU pass0)) (pe_smethR0 (pe_glob (v := .ref a.Rule) (by rfl) T.g_Rule rfl) T.r_Rule T.s_Rule_always R_Rule_always (hr.mono (by decide)) T.Rule_always.kp pass0)) (nomark _)) pa_nil)))))
  (pss_cons (ps_set (i := 10) sc_law.nd rfl (Or.inl rfl) (pe_op op_cat (pv 10) (pe_lst (pa_cons (pe_cmpR (op_F (op_eqOwn (T.m_RuleU_eqU.at_) (T.m_RuleU_eqU.fn) G_RuleU_eqU (hr.mono (by decide)) T.b_RuleU_eqU)) (pe_smethR (pe_glob (v := .ref a.Rule) (by rfl) T.g_Rule rfl) T.r_Rule T.s_Rule_together R_Rule_together (hr.mono (by decide)) T.Rule_together.kp passL (pa_cons (pe_ix ix_list (pv 3) pe_int (fun _ _ => rfl)) pa_nil)) (pe_smethR0 (pe_glob (v := .ref a.Rule) (by rfl) T.g_Rule rfl) T.r_Rule T.s_Rule_always R_Rule_always (hr.mono (by decide)) T.Rule_always.kp pass0) (nomark _)) pa_nil))))
  (pss_cons (ps_if (pt_cmpR op_in_seq pe_bl (pv 10) (by rfl)) (pss_one (ps_ret pe_bl)) pss_nil)
  (pss_cons (ps_set (i := 11) sc_law.nd rfl (Or.inl rfl) (pe_op op_cat (pe_slice sl_list (pe_callB (cr_sortTS rfl) (by rfl) T.n_sorted (by decide +kernel) (pa_cons (pe_callTy (cr_setTSL rfl) (by rfl) T.n_set (by decide +kernel) (pa_cons (pv 3) pa_nil)) pa_nil)) po_none (po_some pe_int)) (pe_lc (own := [("_law_k", 14)]) (tt := tYes) rfl sc_law.nd (pi_range1 (by rfl) T.n_range (pa_cons pe_int pa_nil)) (blkOk_by (own := [("_law_k", 14)]) (N := ["_law_script", "_law_at", "_law_pool_here", "_law_records", "_law_one", "_law_first", "_law_other", "_law_second", "_law_due", "_law_some", "_law_same", "_law_words", "_law_far", "_law_third", "_law_k"]) (sc := defScope s_law) (by decide +kernel)) (fun _ _ _ _ _ => (pg_name (i := 14) sc_law.nd rfl (Or.inl rfl))) (fun _ _ _ _ _ => pts_nil) (fun _ _ _ _ _ => (pe_call G_law_word (hr.mono (by decide)) (by rfl) T.g_law_word T.law_word.kp T.b_law_word .nil pass0 (pa_cons (pv 2) pa_nil))))))
  (pss_cons (ps_asg (pe_call G_law_built4 (hr.mono (by decide)) (by rfl) T.g_law_built T.law_built.kp T.b_law_built .nil pass0 (pa_cons (pv 2) (pa_cons (pe_slice sl_list (pv 11) (po_some (pe_op op_sub (pe_callB call_len_seq (by rfl) T.n_len PySem.boot_len (pa_cons (pv 11) pa_nil)) pe_int)) po_none) (pa_cons pe_int pa_nil)))) (pg_tup rfl (pgs_cons (pg_name (i := 12) sc_law.nd rfl (Or.inl rfl)) (pgs_cons (pg_name (i := 13) sc_law.nd rfl (Or.inl rfl)) pgs_nil))))
  (pss_cons (ps_set (i := 8) sc_law.nd rfl (Or.inl rfl) pe_bl)
  (pss_cons (ps_for PassesOwn.never rfl (pi_list (pe_call G_law_subsets (hr.mono (by decide)) (by rfl) T.g_law_subsets T.law_subsets.kp T.b_law_subsets .nil pass0 (pa_cons (pe_callB (cr_sortTS rfl) (by rfl) T.n_sorted (by decide +kernel) (pa_cons (pe_callTy (cr_setTSL rfl) (by rfl) T.n_set (by decide +kernel) (pa_cons (pe_op op_cat (pv 11) (pv 3)) pa_nil)) pa_nil)) pa_nil))) (pg_name (i := 9) sc_law.nd rfl (Or.inl rfl))
  (pss_one (ps_set (i := 8) sc_law.nd rfl (Or.inl rfl) (pe_and (pv 8) (pe_one (pe_cmpR op_eq (pe_call G_law_allows (hr.mono (by decide)) (by rfl) T.g_law_allows T.law_allows.kp T.b_law_allows .nil pass0 (pa_cons (pv 5) (pa_cons (pv 9) pa_nil))) (pe_call G_law_allows (hr.mono (by decide)) (by rfl) T.g_law_allows T.law_allows.kp T.b_law_allows .nil pass0 (pa_cons (pv 13) (pa_cons (pv 9) pa_nil))) (nomark _)))))))
  (pss_cons (ps_if (PW.pt (pw_or (pt_cmpR op_ne (pe_cmpR (op_F (op_eqOwn (T.m_RuleU_eqU.at_) (T.m_RuleU_eqU.fn) G_RuleU_eqU (hr.mono (by decide)) T.b_RuleU_eqU)) (pv 4) (pv 12) (nomark _)) (pv 8) (nomark _)) (pw_or1 (pt_cmpR op_ne (pe_cmpR (op_F (op_eqOwn (T.m_RuleU_eqU.at_) (T.m_RuleU_eqU.fn) G_RuleU_eqU (hr.mono (by decide)) T.b_RuleU_eqU)) (pv 12) (pv 4) (nomark _)) (pv 8) (nomark _))))) (pss_one (ps_ret pe_bl)) pss_nil)
  (pss_one (ps_if (PW.pt (pw_or (pt_cmpR (op_F (op_eqOwn (T.m_RuleU_eqU.at_) (T.m_RuleU_eqU.fn) G_RuleU_eqU (hr.mono (by decide)) T.b_RuleU_eqU)) (pv 4) (pv 5) (nomark _)) (pw_or (pt_cmpR (op_F (op_eqOwn (T.m_RuleU_eqU.at_) (T.m_RuleU_eqU.fn) G_RuleU_eqU (hr.mono (by decide)) T.b_RuleU_eqU)) (pv 4) (pe_callTy (call_strOwn T.m_RuleU_strU.at_ T.m_RuleU_strU.fn G_RuleU_strU (hr.mono (by decide)) T.b_RuleU_strU) (by rfl) T.n_str (by decide +kernel) (pa_cons (pv 4) pa_nil)) (nomark _)) (pw_or (pt_cmpR (op_F (op_eqOwn (T.m_RuleU_eqU.at_) (T.m_RuleU_eqU.fn) G_RuleU_eqU (hr.mono (by decide)) T.b_RuleU_eqU)) (pv 4) pe_non (nomark _)) (pw_or (pt_cmpR (op_F (op_eqOwn (T.m_RuleU_eqU.at_) (T.m_RuleU_eqU.fn) G_RuleU_eqU (hr.mono (by decide)) T.b_RuleU_eqU)) (pv 4) (pe_ix ix_list (pv 3) pe_int (fun _ _ => rfl)) (nomark _)) (pw_or1 (pt_cmpR (op_F (op_eqOwn (T.m_RuleU_eqU.at_) (T.m_RuleU_eqU.fn) G_RuleU_eqU (hr.mono (by decide)) T.b_RuleU_eqU)) (pv 4) (pe_un (un_F (un_own (T.m_RuleU_invertU.at_) (T.m_RuleU_invertU.fn) G_RuleU_invertU (hr.mono (by decide)) T.b_RuleU_invertU pass0)) (pv 4)) (nomark _)))))))) (pss_one (ps_ret pe_bl)) pss_nil))))))))))))))))))))
  (pss_one (ps_ret pe_bl))), ?_⟩
    dsimp only [cxOf]
    walk_at "rd"
    refine for_range (fun i σ H1 => i ≤ 63 ∧ Same H H1 ∧ ∃ v1 v2 v3 v4 v5 v6 v7 v8 v9 v10 v11 v12 v13 v14, σ = [some (.ref sa), v1, v2, v3, v4, v5, v6, v7, v8, v9, v10, v11, v12, v13, v14]) ?_ ?_ ?_
    · exact ⟨by omega, Same.refl H, _, _, _, _, _, _, _, _, _, _, _, _, _, _, rfl⟩
    · rintro i σ H1 hi ⟨h12, s1, v1, v2, v3, v4, v5, v6, v7, v8, v9, v10, v11, v12, v13, v14, rfl⟩
      have hi12 : i < 63 := by revert hi; split <;> split <;> omega
      refine ⟨_, rfl, _, rfl, sa, ns, i, ?_, s1.seq hS, by omega, fun p o hp ho => ?_⟩
      · rw [Int.zero_add]; rfl
      have I0 : P14 H (upd H1 p o) p 0 := ⟨s1.new hp, ⟨o, upd_same, ho⟩, s1.free hp⟩
      have hp0 := upd_same (H := H1) (a := p) (o := o)
      generalize upd H1 p o = H2 at I0 hp0 ⊢
      walk_at "rd"
      intro r3 o3 r30 r31 h3
      have I3 := I0.draw (o' := o3) Kp.refl.set1 upd_same h3
      have hp3 := upd_same (H := H2) (a := p) (o := o3)
      generalize upd H2 p o3 = H3 at I3 hp3 ⊢
      walk_at "rd"
      intro qw hqw
      have nqw : qw ≠ p := Ne.symm (ne_of_none hp3 hqw)
      have fqw : H qw = none := I3.same.free hqw
      refine lc_range (fun j H' => j ≤ 6 ∧ ∃ ws : List Str, ws.length = j ∧ (∀ z ∈ ws, IsWord z) ∧ P14 H H' p (1 + 9 * j) ∧ H' qw = some (.lst (ws.map V.str))) ?_ ?_ ?_
      · exact ⟨by omega, [], rfl, (fun z hz => nomatch hz), I3.keep ((Same.refl _).new hqw), upd_same⟩
      · rintro j H4 hj ⟨j7, ws, e1, e2, I4, e3⟩
        refine ⟨rfl, ?_⟩
        obtain ⟨o4, hp4, ho4⟩ := I4.pool
        walk_at "rd"
        intro w5 o5 H5 hw5 h5 hp5 kp5
        have I5 := I4.draw kp5 hp5 h5
        have hq5 := kp5 _ _ e3 nqw
        refine ⟨_, hq5, by rw [List.length_map, sizeLine_eq]; omega, by omega, ws ++ [w5], by rw [List.length_append, e1]; rfl, ?_, ?_, by rw [upd_same, List.map_append]; rfl⟩
        · intro z hz
          rcases List.mem_append.mp hz with hz | hz
          · exact e2 z hz
          · exact List.mem_singleton.mp hz ▸ hw5
        · exact ⟨I5.same.frsh fqw, ⟨o5, upd_oth (Ne.symm nqw) hp5, h5.mono (by omega)⟩, I5.fr⟩
      · rintro H4 ⟨j7, ws, e1, e2, I4, e3⟩
        obtain ⟨o4, hp4, ho4⟩ := I4.pool
        have wne : ws ≠ [] := fun e => by rw [e] at e1; simp at e1; omega
        have wl : ws.length ≤ 6 := by omega
        have npw := Ne.symm nqw
        have bb : bnd 5 = 630 := rfl
        have c5 : 1 + 9 * (1 + r3).toNat + bnd 5 < 2 ^ 30 := by omega
        have ho4 := ho4.mono (show _ ≤ 60 by omega)
        have c5 : 60 + bnd 5 < 2 ^ 30 := by omega
        have c6 : 60 + bnd 5 + bnd 5 < 2 ^ 30 := by omega
        walk_at "rd"
        intro H5 o5 t5 ru5 nd5 f5 kp5 hp5 h5 ht5 hru5 hnd5 hd5 ho5 hs5
        have I5 := I4.draw kp5 hp5 h5
        have hw5 := kp5 _ _ e3 nqw
        walk_at "rd"
        intro H6 o6 t6 ru6 nd6 f6 kp6 hp6 h6 ht6 hru6 hnd6 hd6 ho6 hs6
        have I6 := I5.draw kp6 hp6 h6
        have hw6 := kp6 _ _ hw5 nqw
        have hru5 := hru5.im (I5.im kp6)
        have hnd5 := hnd5.ik (I5.ik kp6)
        clear hw5 I5 hp5 h5 ht5 kp5 kp6 I4 hp4 ho4 e3
        have lz : ws.length + 1 < scanBound := by
          have : scanBound = 4096 := rfl
          omega
        walk_at "rd"
        intro q8 hq8
        have s8 := (Same.refl H6).new (o := TSO w q8 (setT ws)) hq8
        have ht8 := upd_same (H := H6) (a := q8) (o := TSO w q8 (setT ws))
        generalize upd H6 q8 (TSO w q8 (setT ws)) = H8 at s8 ht8 ⊢
        refine ⟨q8, _, rfl, ht8, fun q9 hq9 => ?_⟩
        have s9 := s8.new (o := .lst ((sortT (setT ws)).map V.str)) hq9
        have ht9 := upd_same (H := H8) (a := q9) (o := .lst ((sortT (setT ws)).map V.str))
        generalize upd H8 q9 (.lst ((sortT (setT ws)).map V.str)) = H9 at s9 ht9 ⊢
        have ls : (sortT (setT ws)).length ≤ 13 := by
          have := setT_len (xs := ws)
          rw [sortT_len]; omega
        walk_at "rd"
        intro H10 r10 ps s10 hr10 eps hps
        have s10 := s9.trans s10
        have dn5 : f5.norm.dep < 5 := by rw [norm_dep]; exact hd5
        have dn6 : f6.norm.dep < 5 := by rw [norm_dep]; exact hd6
        have rw5 : RuW a ws H6 f5.norm ru5 := ⟨hru5, fun z hz => hs5 z ((recs_mem f5 z).mp hz)⟩
        have rw6 : RuW a ws H6 f6.norm ru6 := ⟨hru6, fun z hz => hs6 z ((recs_mem f6 z).mp hz)⟩
        refine ⟨_, rfl, ⟨_, SqL.of hr10⟩, ?_⟩
        refine for_list (xs := ps.map fun e => V.ref e.1) (fun l σ H' => Same H10 H' ∧ ∃ b v9 v10 v11 v12 v13 v14, (b = true ↔ ∀ e ∈ ps.take l, f5.nsat e.2 = f6.nsat e.2) ∧ σ = [some (.ref sa), some (.int (0 + (i : Int))), some (.ref p), some (.ref qw), some ru5, some nd5, some ru6, some nd6, some (.bl b), v9, v10, v11, v12, v13, v14]) ?_ ?_ ?_ ?_
        · exact ⟨Same.refl _, true, _, _, _, _, _, _, by simp, rfl⟩
        · rintro l σ H' _ ⟨s11, _⟩
          exact SqL.of (s11 _ _ hr10)
        · rintro l v σ H11 hv ⟨s11, b, v9, v10, v11, v12, v13, v14, hb, rfl⟩
          rw [List.getElem?_map] at hv
          obtain ⟨e, hx, rfl⟩ : ∃ e, ps[l]? = some e ∧ v = .ref e.1 := by
            cases e : ps[l]? with
            | none => rw [e] at hv; cases hv
            | some x => rw [e] at hv; cases hv; exact ⟨x, rfl, rfl⟩
          have hk := s11 _ _ (hps e (List.mem_of_getElem? hx))
          have nd5' := hnd5.ik (s10.trans s11).ik
          have nd6' := hnd6.ik (s10.trans s11).ik
          have tk : ps.take (l + 1) = ps.take l ++ [e] := by rw [List.take_add_one, hx]; rfl
          cases b with
          | false =>
            walk_at "rd"
            refine ⟨_, _, _, _, _, _, ?_, rfl⟩
            rw [tk]
            exact ⟨(fun z => nomatch z), fun z => hb.mpr fun y hy => z y (List.mem_append_left _ hy)⟩
          | true =>
            walk_at "rd"
            refine ⟨f5, _, e.1, e.2, rfl, hd5, ho5, nd5', .inl (SqL.of hk), fun H12 s12 => ?_⟩
            walk_at "rd"
            refine ⟨f6, _, e.1, e.2, rfl, hd6, ho6, nd6'.ik s12.ik, .inl (SqL.of (s12 _ _ hk)), fun H13 s13 => ?_⟩
            dsimp only [rEq]
            refine ⟨rfl, ?_⟩
            refine ⟨(s11.trans s12).trans s13, _, _, _, _, _, _, _, ?_, rfl⟩
            rw [tk, decide_eq_true_eq]
            refine ⟨fun z y hy => ?_, fun z => congrArg V.bl (z e (List.mem_append_right _ (List.mem_singleton.mpr rfl)))⟩
            rcases List.mem_append.mp hy with hy | hy
            · exact hb.mp rfl y hy
            · cases List.mem_singleton.mp hy
              exact V.bl.inj z
        · rintro σ H11 ⟨s11, b, v9, v10, v11, v12, v13, v14, hb, rfl⟩
          rw [List.length_map, List.take_length] at hb
          have hb : b = true ↔ ∀ ks, f5.norm.sat ks = f6.norm.sat ks := by
            rw [hb, ← due_iff (R := sortT (setT ws)) (fun z hz => by rw [sortT_mem, setT_mem]; exact rw5.2 z hz) (fun z hz => by rw [sortT_mem, setT_mem]; exact rw6.2 z hz), ← eps]
            simp only [List.mem_map, forall_exists_index, and_imp, forall_apply_eq_imp_iff₂, nsat_norm]
          have s11 := s10.trans s11
          have rw5 := rw5.same s11
          have rw6 := rw6.same s11
          walk_at "rd"
          refine .inl (st_eq rw5.1 rw6.1 (by omega) (by omega) fun b1 G1 t1 c1 => ?_)
          have e1 : b1 = b := Bool.eq_iff_iff.mpr (c1.trans hb.symm)
          subst e1
          have ee : ∀ z : V, (!decide (z = z)) = false := fun z => by simp
          walk_at "rd"
          rw [ee]
          have rw5 := rw5.same t1
          have rw6 := rw6.same t1
          walk_at "rd"
          refine .inl (st_eq rw6.1 rw5.1 (by omega) (by omega) fun b2 G2 t2 c2 => ?_)
          have e2' : b2 = b1 := Bool.eq_iff_iff.mpr (c2.trans ⟨fun z => hb.mpr fun ks => (z ks).symm, fun z ks => (hb.mp z ks).symm⟩)
          subst e2'
          walk_at "rd"
          rw [ee]
          have rw5 := rw5.same t2
          have rw6 := rw6.same t2
          walk_at "rd"
          refine .inl (st_ne rw5.1 rw6.1 (by omega) (by omega) fun b3 G3 t3 c3 => ?_)
          have e3' : b3 = b2 := Bool.eq_iff_iff.mpr (c3.trans hb.symm)
          subst e3'
          have ne' : decide (V.bl (!b3) = V.bl b3) = false := by cases b3 <;> rfl
          walk_at "rd"
          rw [ne']
          have rw5 := rw5.same t3
          have rw6 := rw6.same t3
          have sA := s11.trans (t1.trans (t2.trans t3))
          have hwq := t3 _ _ (t2 _ _ (t1 _ _ (s11 _ _ hw6)))
          obtain ⟨z0, zr, ew⟩ : ∃ z0 zr, ws = z0 :: zr := by cases ws with | nil => exact absurd rfl wne | cons z r => exact ⟨z, r, rfl⟩
          have m0 : z0 ∈ ws := by rw [ew]; exact List.mem_cons_self
          have az0 : atI (ws.map V.str) 0 = some (.str z0) := atI_nat (j := 0) (by rw [ew]; rfl)
          walk_at "rd"
          refine .inl (st_eq rw5.1 rw5.1 (by (try simp only [Fm.dep]); omega) (by (try simp only [Fm.dep]); omega) fun b1 J1 u1 c1 => ?_)
          replace sA := sA.trans u1
          replace hwq := u1 _ _ hwq
          replace rw5 := rw5.same u1
          replace rw6 := rw6.same u1
          obtain rfl : b1 = true := c1.mpr fun ks => by first | rfl | exact sat_tog1 _ _ | (simp only [sat_and, sat_or, sat_needs, sat_nt, sat_alw]; cases f5.norm.sat ks <;> cases f6.norm.sat ks <;> rfl)
          clear c1 u1
          walk_at "rd"
          refine .inl (st_bin rw5 rw6 (by (try simp only [Fm.dep]); omega) (by (try simp only [Fm.dep]); omega) wl fun J2 r2 u2 x2 => ?_)
          replace sA := sA.trans u2
          replace hwq := u2 _ _ hwq
          replace rw5 := rw5.same u2
          replace rw6 := rw6.same u2
          walk_at "rd"
          refine .inl (st_inv rw5 fun J3 r3 u3 x3 => ?_)
          replace sA := sA.trans u3
          replace hwq := u3 _ _ hwq
          replace rw5 := rw5.same u3
          replace rw6 := rw6.same u3
          replace x2 := x2.same u3
          walk_at "rd"
          refine .inl (st_bin x3 rw6 (by (try simp only [Fm.dep]); omega) (by (try simp only [Fm.dep]); omega) wl fun J4 r4 u4 x4 => ?_)
          replace sA := sA.trans u4
          replace hwq := u4 _ _ hwq
          replace rw5 := rw5.same u4
          replace rw6 := rw6.same u4
          replace x2 := x2.same u4
          walk_at "rd"
          refine .inl (st_eq x2.1 x4.1 (by (try simp only [Fm.dep]); omega) (by (try simp only [Fm.dep]); omega) fun b5 J5 u5 c5 => ?_)
          replace sA := sA.trans u5
          replace hwq := u5 _ _ hwq
          replace rw5 := rw5.same u5
          replace rw6 := rw6.same u5
          obtain rfl : b5 = true := c5.mpr fun ks => by first | rfl | exact sat_tog1 _ _ | (simp only [sat_and, sat_or, sat_needs, sat_nt, sat_alw]; cases f5.norm.sat ks <;> cases f6.norm.sat ks <;> rfl)
          clear x2 u2 x3 u3 x4 u4 c5 u5
          walk_at "rd"
          refine .inl (st_inv rw5 fun J6 r6 u6 x6 => ?_)
          replace sA := sA.trans u6
          replace hwq := u6 _ _ hwq
          replace rw5 := rw5.same u6
          replace rw6 := rw6.same u6
          walk_at "rd"
          refine .inl (st_inv x6 fun J7 r7 u7 x7 => ?_)
          replace sA := sA.trans u7
          replace hwq := u7 _ _ hwq
          replace rw5 := rw5.same u7
          replace rw6 := rw6.same u7
          walk_at "rd"
          refine .inl (st_eq x7.1 rw5.1 (by (try simp only [Fm.dep]); omega) (by (try simp only [Fm.dep]); omega) fun b8 J8 u8 c8 => ?_)
          replace sA := sA.trans u8
          replace hwq := u8 _ _ hwq
          replace rw5 := rw5.same u8
          replace rw6 := rw6.same u8
          obtain rfl : b8 = true := c8.mpr fun ks => by first | rfl | exact sat_tog1 _ _ | (simp only [sat_and, sat_or, sat_needs, sat_nt, sat_alw]; cases f5.norm.sat ks <;> cases f6.norm.sat ks <;> rfl)
          clear x6 u6 x7 u7 c8 u8
          walk_at "rd"
          refine .inl (st_bin rw5 rw6 (by (try simp only [Fm.dep]); omega) (by (try simp only [Fm.dep]); omega) wl fun J9 r9 u9 x9 => ?_)
          replace sA := sA.trans u9
          replace hwq := u9 _ _ hwq
          replace rw5 := rw5.same u9
          replace rw6 := rw6.same u9
          walk_at "rd"
          refine .inl (st_inv rw5 fun J10 r10 u10 x10 => ?_)
          replace sA := sA.trans u10
          replace hwq := u10 _ _ hwq
          replace rw5 := rw5.same u10
          replace rw6 := rw6.same u10
          replace x9 := x9.same u10
          walk_at "rd"
          refine .inl (st_inv rw6 fun J11 r11 u11 x11 => ?_)
          replace sA := sA.trans u11
          replace hwq := u11 _ _ hwq
          replace rw5 := rw5.same u11
          replace rw6 := rw6.same u11
          replace x9 := x9.same u11
          replace x10 := x10.same u11
          walk_at "rd"
          refine .inl (st_bin x10 x11 (by (try simp only [Fm.dep]); omega) (by (try simp only [Fm.dep]); omega) wl fun J12 r12 u12 x12 => ?_)
          replace sA := sA.trans u12
          replace hwq := u12 _ _ hwq
          replace rw5 := rw5.same u12
          replace rw6 := rw6.same u12
          replace x9 := x9.same u12
          walk_at "rd"
          refine .inl (st_inv x12 fun J13 r13 u13 x13 => ?_)
          replace sA := sA.trans u13
          replace hwq := u13 _ _ hwq
          replace rw5 := rw5.same u13
          replace rw6 := rw6.same u13
          replace x9 := x9.same u13
          walk_at "rd"
          refine .inl (st_eq x9.1 x13.1 (by (try simp only [Fm.dep]); omega) (by (try simp only [Fm.dep]); omega) fun b14 J14 u14 c14 => ?_)
          replace sA := sA.trans u14
          replace hwq := u14 _ _ hwq
          replace rw5 := rw5.same u14
          replace rw6 := rw6.same u14
          obtain rfl : b14 = true := c14.mpr fun ks => by first | rfl | exact sat_tog1 _ _ | (simp only [sat_and, sat_or, sat_needs, sat_nt, sat_alw]; cases f5.norm.sat ks <;> cases f6.norm.sat ks <;> rfl)
          clear x9 u9 x10 u10 x11 u11 x12 u12 x13 u13 c14 u14
          walk_at "rd"
          intro q15 hq15
          have l15 := upd_same (a := q15) (o := .lst [.bl true, .bl true, .bl true, .bl true]) (H := J14)
          have u15 := (Same.refl J14).new (o := .lst [.bl true, .bl true, .bl true, .bl true]) hq15
          replace sA := sA.trans u15
          replace hwq := u15 _ _ hwq
          replace rw5 := rw5.same u15
          replace rw6 := rw6.same u15
          generalize upd J14 q15 (.lst [.bl true, .bl true, .bl true, .bl true]) = J15 at *
          walk_at "rd"
          refine .inl (st_bin rw5 rw6 (by (try simp only [Fm.dep]); omega) (by (try simp only [Fm.dep]); omega) wl fun J16 r16 u16 x16 => ?_)
          replace sA := sA.trans u16
          replace hwq := u16 _ _ hwq
          replace l15 := u16 _ _ l15
          replace rw5 := rw5.same u16
          replace rw6 := rw6.same u16
          walk_at "rd"
          refine .inl (st_bin rw6 rw5 (by (try simp only [Fm.dep]); omega) (by (try simp only [Fm.dep]); omega) wl fun J17 r17 u17 x17 => ?_)
          replace sA := sA.trans u17
          replace hwq := u17 _ _ hwq
          replace l15 := u17 _ _ l15
          replace rw5 := rw5.same u17
          replace rw6 := rw6.same u17
          replace x16 := x16.same u17
          walk_at "rd"
          refine .inl (st_eq x16.1 x17.1 (by (try simp only [Fm.dep]); omega) (by (try simp only [Fm.dep]); omega) fun b18 J18 u18 c18 => ?_)
          replace sA := sA.trans u18
          replace hwq := u18 _ _ hwq
          replace l15 := u18 _ _ l15
          replace rw5 := rw5.same u18
          replace rw6 := rw6.same u18
          obtain rfl : b18 = true := c18.mpr fun ks => by first | rfl | exact sat_tog1 _ _ | (simp only [sat_and, sat_or, sat_needs, sat_nt, sat_alw]; cases f5.norm.sat ks <;> cases f6.norm.sat ks <;> rfl)
          clear x16 u16 x17 u17 c18 u18
          walk_at "rd"
          refine .inl (st_bin rw5 rw6 (by (try simp only [Fm.dep]); omega) (by (try simp only [Fm.dep]); omega) wl fun J19 r19 u19 x19 => ?_)
          replace sA := sA.trans u19
          replace hwq := u19 _ _ hwq
          replace l15 := u19 _ _ l15
          replace rw5 := rw5.same u19
          replace rw6 := rw6.same u19
          walk_at "rd"
          refine .inl (st_bin rw6 rw5 (by (try simp only [Fm.dep]); omega) (by (try simp only [Fm.dep]); omega) wl fun J20 r20 u20 x20 => ?_)
          replace sA := sA.trans u20
          replace hwq := u20 _ _ hwq
          replace l15 := u20 _ _ l15
          replace rw5 := rw5.same u20
          replace rw6 := rw6.same u20
          replace x19 := x19.same u20
          walk_at "rd"
          refine .inl (st_eq x19.1 x20.1 (by (try simp only [Fm.dep]); omega) (by (try simp only [Fm.dep]); omega) fun b21 J21 u21 c21 => ?_)
          replace sA := sA.trans u21
          replace hwq := u21 _ _ hwq
          replace l15 := u21 _ _ l15
          replace rw5 := rw5.same u21
          replace rw6 := rw6.same u21
          obtain rfl : b21 = true := c21.mpr fun ks => by first | rfl | exact sat_tog1 _ _ | (simp only [sat_and, sat_or, sat_needs, sat_nt, sat_alw]; cases f5.norm.sat ks <;> cases f6.norm.sat ks <;> rfl)
          clear x19 u19 x20 u20 c21 u21
          walk_at "rd"
          intro J22 r22 u22 y22
          have x22 : RuW a ws J22 .alw r22 := ⟨y22, fun z hz => by have hz : z ∈ sortT (setT ([] : List Str)) := hz; rw [sortT_mem, setT_mem] at hz; cases hz⟩
          replace sA := sA.trans u22
          replace hwq := u22 _ _ hwq
          replace l15 := u22 _ _ l15
          replace rw5 := rw5.same u22
          replace rw6 := rw6.same u22
          walk_at "rd"
          refine .inl (st_bin rw5 x22 (by (try simp only [Fm.dep]); omega) (by (try simp only [Fm.dep]); omega) wl fun J23 r23 u23 x23 => ?_)
          replace sA := sA.trans u23
          replace hwq := u23 _ _ hwq
          replace l15 := u23 _ _ l15
          replace rw5 := rw5.same u23
          replace rw6 := rw6.same u23
          walk_at "rd"
          refine .inl (st_eq x23.1 rw5.1 (by (try simp only [Fm.dep]); omega) (by (try simp only [Fm.dep]); omega) fun b24 J24 u24 c24 => ?_)
          replace sA := sA.trans u24
          replace hwq := u24 _ _ hwq
          replace l15 := u24 _ _ l15
          replace rw5 := rw5.same u24
          replace rw6 := rw6.same u24
          obtain rfl : b24 = true := c24.mpr fun ks => by first | rfl | exact sat_tog1 _ _ | (simp only [sat_and, sat_or, sat_needs, sat_nt, sat_alw]; cases f5.norm.sat ks <;> cases f6.norm.sat ks <;> rfl)
          clear x22 y22 u22 x23 u23 c24 u24
          walk_at "rd"
          intro q25 hq25
          have l25 := upd_same (a := q25) (o := .lst [.bl true, .bl true, .bl true]) (H := J24)
          have u25 := (Same.refl J24).new (o := .lst [.bl true, .bl true, .bl true]) hq25
          replace sA := sA.trans u25
          replace hwq := u25 _ _ hwq
          replace l15 := u25 _ _ l15
          replace rw5 := rw5.same u25
          replace rw6 := rw6.same u25
          generalize upd J24 q25 (.lst [.bl true, .bl true, .bl true]) = J25 at *
          have lc26 : ([.bl true, .bl true, .bl true, .bl true] : List V).length + ([.bl true, .bl true, .bl true] : List V).length ≤ sizeLine := by rw [sizeLine_eq]; decide
          walk_at "rd"
          intro q26 hq26
          have l26 := upd_same (a := q26) (o := .lst ([.bl true, .bl true, .bl true, .bl true] ++ [.bl true, .bl true, .bl true])) (H := J25)
          have u26 := (Same.refl J25).new (o := .lst ([.bl true, .bl true, .bl true, .bl true] ++ [.bl true, .bl true, .bl true])) hq26
          replace sA := sA.trans u26
          replace hwq := u26 _ _ hwq
          replace rw5 := rw5.same u26
          replace rw6 := rw6.same u26
          generalize upd J25 q26 (.lst ([.bl true, .bl true, .bl true, .bl true] ++ [.bl true, .bl true, .bl true])) = J26 at *
          rw [show ([.bl true, .bl true, .bl true, .bl true] ++ [.bl true, .bl true, .bl true]) = ([.bl true, .bl true, .bl true, .bl true, .bl true, .bl true, .bl true] : List V) from rfl] at l26
          walk_at "rd"
          intro J27 r27 u27 y27
          have x27 : RuW a ws J27 .alw r27 := ⟨y27, fun z hz => by have hz : z ∈ sortT (setT ([] : List Str)) := hz; rw [sortT_mem, setT_mem] at hz; cases hz⟩
          replace sA := sA.trans u27
          replace hwq := u27 _ _ hwq
          replace l26 := u27 _ _ l26
          replace rw5 := rw5.same u27
          replace rw6 := rw6.same u27
          walk_at "rd"
          refine .inl (st_bin rw5 x27 (by (try simp only [Fm.dep]); omega) (by (try simp only [Fm.dep]); omega) wl fun J28 r28 u28 x28 => ?_)
          replace sA := sA.trans u28
          replace hwq := u28 _ _ hwq
          replace l26 := u28 _ _ l26
          replace rw5 := rw5.same u28
          replace rw6 := rw6.same u28
          walk_at "rd"
          intro J29 r29 u29 y29
          have x29 : RuW a ws J29 .alw r29 := ⟨y29, fun z hz => by have hz : z ∈ sortT (setT ([] : List Str)) := hz; rw [sortT_mem, setT_mem] at hz; cases hz⟩
          replace sA := sA.trans u29
          replace hwq := u29 _ _ hwq
          replace l26 := u29 _ _ l26
          replace rw5 := rw5.same u29
          replace rw6 := rw6.same u29
          replace x28 := x28.same u29
          walk_at "rd"
          refine .inl (st_eq x28.1 x29.1 (by (try simp only [Fm.dep]); omega) (by (try simp only [Fm.dep]); omega) fun b30 J30 u30 c30 => ?_)
          replace sA := sA.trans u30
          replace hwq := u30 _ _ hwq
          replace l26 := u30 _ _ l26
          replace rw5 := rw5.same u30
          replace rw6 := rw6.same u30
          obtain rfl : b30 = true := c30.mpr fun ks => by first | rfl | exact sat_tog1 _ _ | (simp only [sat_and, sat_or, sat_needs, sat_nt, sat_alw]; cases f5.norm.sat ks <;> cases f6.norm.sat ks <;> rfl)
          clear x27 y27 u27 x28 u28 x29 y29 u29 c30 u30
          walk_at "rd"
          refine .inl (st_inv rw5 fun J31 r31 u31 x31 => ?_)
          replace sA := sA.trans u31
          replace hwq := u31 _ _ hwq
          replace l26 := u31 _ _ l26
          replace rw5 := rw5.same u31
          replace rw6 := rw6.same u31
          walk_at "rd"
          refine .inl (st_bin rw5 x31 (by (try simp only [Fm.dep]); omega) (by (try simp only [Fm.dep]); omega) wl fun J32 r32 u32 x32 => ?_)
          replace sA := sA.trans u32
          replace hwq := u32 _ _ hwq
          replace l26 := u32 _ _ l26
          replace rw5 := rw5.same u32
          replace rw6 := rw6.same u32
          walk_at "rd"
          intro J33 r33 u33 y33
          have x33 : RuW a ws J33 .alw r33 := ⟨y33, fun z hz => by have hz : z ∈ sortT (setT ([] : List Str)) := hz; rw [sortT_mem, setT_mem] at hz; cases hz⟩
          replace sA := sA.trans u33
          replace hwq := u33 _ _ hwq
          replace l26 := u33 _ _ l26
          replace rw5 := rw5.same u33
          replace rw6 := rw6.same u33
          replace x32 := x32.same u33
          walk_at "rd"
          refine .inl (st_inv x33 fun J34 r34 u34 x34 => ?_)
          replace sA := sA.trans u34
          replace hwq := u34 _ _ hwq
          replace l26 := u34 _ _ l26
          replace rw5 := rw5.same u34
          replace rw6 := rw6.same u34
          replace x32 := x32.same u34
          walk_at "rd"
          refine .inl (st_eq x32.1 x34.1 (by (try simp only [Fm.dep]); omega) (by (try simp only [Fm.dep]); omega) fun b35 J35 u35 c35 => ?_)
          replace sA := sA.trans u35
          replace hwq := u35 _ _ hwq
          replace l26 := u35 _ _ l26
          replace rw5 := rw5.same u35
          replace rw6 := rw6.same u35
          obtain rfl : b35 = true := c35.mpr fun ks => by first | rfl | exact sat_tog1 _ _ | (simp only [sat_and, sat_or, sat_needs, sat_nt, sat_alw]; cases f5.norm.sat ks <;> cases f6.norm.sat ks <;> rfl)
          clear x31 u31 x32 u32 x33 y33 u33 x34 u34 c35 u35
          walk_at "rd"
          intro q36 hq36
          have l36 := upd_same (a := q36) (o := .lst [.bl true, .bl true]) (H := J35)
          have u36 := (Same.refl J35).new (o := .lst [.bl true, .bl true]) hq36
          replace sA := sA.trans u36
          replace hwq := u36 _ _ hwq
          replace l26 := u36 _ _ l26
          replace rw5 := rw5.same u36
          replace rw6 := rw6.same u36
          generalize upd J35 q36 (.lst [.bl true, .bl true]) = J36 at *
          have lc37 : ([.bl true, .bl true, .bl true, .bl true, .bl true, .bl true, .bl true] : List V).length + ([.bl true, .bl true] : List V).length ≤ sizeLine := by rw [sizeLine_eq]; decide
          walk_at "rd"
          intro q37 hq37
          have l37 := upd_same (a := q37) (o := .lst ([.bl true, .bl true, .bl true, .bl true, .bl true, .bl true, .bl true] ++ [.bl true, .bl true])) (H := J36)
          have u37 := (Same.refl J36).new (o := .lst ([.bl true, .bl true, .bl true, .bl true, .bl true, .bl true, .bl true] ++ [.bl true, .bl true])) hq37
          replace sA := sA.trans u37
          replace hwq := u37 _ _ hwq
          replace rw5 := rw5.same u37
          replace rw6 := rw6.same u37
          generalize upd J36 q37 (.lst ([.bl true, .bl true, .bl true, .bl true, .bl true, .bl true, .bl true] ++ [.bl true, .bl true])) = J37 at *
          rw [show ([.bl true, .bl true, .bl true, .bl true, .bl true, .bl true, .bl true] ++ [.bl true, .bl true]) = ([.bl true, .bl true, .bl true, .bl true, .bl true, .bl true, .bl true, .bl true, .bl true] : List V) from rfl] at l37
          walk_at "rd"
          refine spTog_words (ws := [z0]) (fun z hz => List.mem_singleton.mp hz ▸ e2 z0 m0) (by simp) fun J38 r38 u38 y38 => ?_
          have x38 : RuW a ws J38 (.tog (sortT (setT [z0]))) r38 := ⟨y38, fun z hz => by have hz : z ∈ sortT (setT (sortT (setT [z0]))) := hz; rw [sortT_mem, setT_mem, sortT_mem, setT_mem] at hz; exact List.mem_singleton.mp hz ▸ m0⟩
          replace sA := sA.trans u38
          replace hwq := u38 _ _ hwq
          replace l37 := u38 _ _ l37
          replace rw5 := rw5.same u38
          replace rw6 := rw6.same u38
          walk_at "rd"
          intro J39 r39 u39 y39
          have x39 : RuW a ws J39 .alw r39 := ⟨y39, fun z hz => by have hz : z ∈ sortT (setT ([] : List Str)) := hz; rw [sortT_mem, setT_mem] at hz; cases hz⟩
          replace sA := sA.trans u39
          replace hwq := u39 _ _ hwq
          replace l37 := u39 _ _ l37
          replace rw5 := rw5.same u39
          replace rw6 := rw6.same u39
          replace x38 := x38.same u39
          walk_at "rd"
          refine .inl (st_eq x38.1 x39.1 (by (try simp only [Fm.dep]); omega) (by (try simp only [Fm.dep]); omega) fun b40 J40 u40 c40 => ?_)
          replace sA := sA.trans u40
          replace hwq := u40 _ _ hwq
          replace l37 := u40 _ _ l37
          replace rw5 := rw5.same u40
          replace rw6 := rw6.same u40
          obtain rfl : b40 = true := c40.mpr fun ks => by first | rfl | exact sat_tog1 _ _ | (simp only [sat_and, sat_or, sat_needs, sat_nt, sat_alw]; cases f5.norm.sat ks <;> cases f6.norm.sat ks <;> rfl)
          clear x38 y38 u38 x39 y39 u39 c40 u40
          walk_at "rd"
          intro q41 hq41
          have l41 := upd_same (a := q41) (o := .lst [.bl true]) (H := J40)
          have u41 := (Same.refl J40).new (o := .lst [.bl true]) hq41
          replace sA := sA.trans u41
          replace hwq := u41 _ _ hwq
          replace l37 := u41 _ _ l37
          replace rw5 := rw5.same u41
          replace rw6 := rw6.same u41
          generalize upd J40 q41 (.lst [.bl true]) = J41 at *
          have lc42 : ([.bl true, .bl true, .bl true, .bl true, .bl true, .bl true, .bl true, .bl true, .bl true] : List V).length + ([.bl true] : List V).length ≤ sizeLine := by rw [sizeLine_eq]; decide
          walk_at "rd"
          intro q42 hq42
          have l42 := upd_same (a := q42) (o := .lst ([.bl true, .bl true, .bl true, .bl true, .bl true, .bl true, .bl true, .bl true, .bl true] ++ [.bl true])) (H := J41)
          have u42 := (Same.refl J41).new (o := .lst ([.bl true, .bl true, .bl true, .bl true, .bl true, .bl true, .bl true, .bl true, .bl true] ++ [.bl true])) hq42
          replace sA := sA.trans u42
          replace hwq := u42 _ _ hwq
          replace rw5 := rw5.same u42
          replace rw6 := rw6.same u42
          generalize upd J41 q42 (.lst ([.bl true, .bl true, .bl true, .bl true, .bl true, .bl true, .bl true, .bl true, .bl true] ++ [.bl true])) = J42 at *
          rw [show ([.bl true, .bl true, .bl true, .bl true, .bl true, .bl true, .bl true, .bl true, .bl true] ++ [.bl true]) = ([.bl true, .bl true, .bl true, .bl true, .bl true, .bl true, .bl true, .bl true, .bl true, .bl true] : List V) from rfl] at l42
          have hru5 := rw5.1
          have hnd5 := hnd5.ik sA.ik
          have I42 := I6.keep sA
          have fw5 : ∀ z ∈ f5.norm.recs, z ∈ ws := rw5.2
          walk_at "rd"
          intro q43 hq43
          have s43 := (Same.refl J42).new (o := TSO w q43 (setT ws)) hq43
          have ht43 := upd_same (H := J42) (a := q43) (o := TSO w q43 (setT ws))
          generalize upd J42 q43 (TSO w q43 (setT ws)) = J43 at s43 ht43 ⊢
          refine ⟨q43, _, rfl, ht43, fun q44 hq44 => ?_⟩
          have s44 := s43.new (o := .lst ((sortT (setT ws)).map V.str)) hq44
          have ht44 := upd_same (H := J43) (a := q44) (o := .lst ((sortT (setT ws)).map V.str))
          generalize upd J43 q44 (.lst ((sortT (setT ws)).map V.str)) = J44 at s44 ht44 ⊢
          walk_at "rd"
          intro q45 hq45
          obtain ⟨w4, e4, l4a, l4b, m4⟩ : ∃ w4 : List Str, cutV ((sortT (setT ws)).map V.str) none (some 4) = w4.map V.str ∧ w4.length ≤ 4 ∧ 1 ≤ w4.length ∧ ∀ z ∈ w4, IsWord z := by
            refine ⟨(sortT (setT ws)).take 4, by rw [List.map_take]; exact cut_to (k := 4), by rw [List.length_take]; omega, ?_, fun z hz => e2 z (by have hz := List.mem_of_mem_take hz; rw [sortT_mem, setT_mem] at hz; exact hz)⟩
            have : z0 ∈ sortT (setT ws) := by rw [sortT_mem, setT_mem]; exact m0
            have := List.length_pos_of_mem this
            rw [List.length_take]; omega
          rw [e4]
          have s45 := s44.new (o := .lst (w4.map V.str)) hq45
          have ht45 := upd_same (H := J44) (a := q45) (o := .lst (w4.map V.str))
          generalize upd J44 q45 (.lst (w4.map V.str)) = J45 at s45 ht45 ⊢
          have I45 := I42.keep s45
          have hru5 := hru5.im s45.im
          have hnd5 := hnd5.ik s45.ik
          have hwq := s45 _ _ hwq
          clear s43 s44 ht43 ht44 hq43 hq44 hq45 I42 rw5 rw6 G_RuleU_andU G_RuleU_orU G_RuleU_rshiftU
          walk_at "rd"
          intro qS hqS
          obtain ⟨oP, hpP, hoP⟩ := I45.pool
          have nqS : qS ≠ p := Ne.symm (ne_of_none hpP hqS)
          have fqS : H qS = none := I45.same.free hqS
          refine lc_range (fun j H' => j ≤ 3 ∧ ∃ vs : List Str, vs.length = j ∧ (∀ z ∈ vs, IsWord z) ∧ P14 H H' p (60 + bnd 5 + bnd 5 + 9 * j) ∧ Kp (fun b => b = p ∨ b = qS) J45 H' ∧ H' qS = some (.lst (vs.map V.str))) ?_ ?_ ?_
          · exact ⟨by omega, [], rfl, (fun z hz => nomatch hz), I45.keep ((Same.refl _).new hqS), Kp.refl.new hqS, upd_same⟩
          · rintro j G4 hj ⟨j7, vs, e1v, e2v, I4, kp4, e3⟩
            refine ⟨rfl, ?_⟩
            obtain ⟨o4, hp4, ho4⟩ := I4.pool
            walk_at "rd"
            intro w5 o5 G5 hw5' h5 hp5 kp5
            have I5 := I4.draw kp5 hp5 h5
            have hq5 := kp5 _ _ e3 nqS
            refine ⟨_, hq5, by rw [List.length_map, sizeLine_eq]; omega, by omega, vs ++ [w5], by rw [List.length_append, e1v]; rfl, ?_, ?_, ?_, by rw [upd_same, List.map_append]; rfl⟩
            · intro z hz
              rcases List.mem_append.mp hz with hz | hz
              · exact e2v z hz
              · exact List.mem_singleton.mp hz ▸ hw5'
            · exact ⟨I5.same.frsh fqS, ⟨o5, upd_oth (Ne.symm nqS) hp5, h5.mono (by omega)⟩, I5.fr⟩
            · exact (kp4.trans (kp5.mono fun b e => .inl e)).set (.inr rfl)
          · rintro G4 ⟨j7, vs, e1v, e2v, I4, kp4, e3⟩
            have im4 : Im J45 G4 := by
              obtain ⟨x1, x2, x3, ex, _⟩ := hoP
              refine ⟨fun b xs h => kp4 b _ h fun z => ?_, fun b C dx fs h => kp4 b _ h fun z => ?_⟩
              · rcases z with rfl | rfl
                · rw [hpP, ex] at h; cases h
                · rw [hqS] at h; cases h
              · rcases z with rfl | rfl
                · rw [hpP, ex] at h; cases h
                · rw [hqS] at h; cases h
            have ik4 : Ik p J45 G4 := by
              obtain ⟨x1, x2, x3, ex, _⟩ := hoP
              refine ⟨fun b xs h => kp4 b _ h fun z => ?_, fun b xs n h => kp4 b _ h fun z => ?_⟩
              · rcases z with rfl | rfl
                · rw [hpP, ex] at h; cases h
                · rw [hqS] at h; cases h
              · rcases z with rfl | rfl
                · exact n rfl
                · rw [hqS] at h; cases h
            have hru5 := hru5.im im4
            have hnd5 := hnd5.ik ik4
            have hwq := kp4 _ _ hwq fun z => z.elim nqw (ne_of_none hwq hqS)
            have ht46 := kp4 _ _ ht45 fun z => z.elim (fun e => by rw [e, hpP] at ht45; obtain ⟨x1, x2, x3, ex, _⟩ := hoP; rw [ex] at ht45; have := congrArg (fun o : Option HO => match o with | some (.lst (.str _ :: _)) => true | _ => false) ht45; cases w4 with | nil => simp at l4b | cons _ _ => cases this) (ne_of_none ht45 hqS)
            have lc4 : (w4.map V.str).length + (vs.map V.str).length ≤ sizeLine := by rw [List.length_map, List.length_map, sizeLine_eq]; omega
            clear kp4 im4 ik4 I45 hpP hoP ht45
            walk_at "rd"
            intro q46 hq46
            obtain ⟨W, eW⟩ : ∃ W, W = w4 ++ vs := ⟨_, rfl⟩
            rw [show w4.map V.str ++ vs.map V.str = W.map V.str by rw [eW, List.map_append]]
            have lW1 : 4 ≤ W.length := by rw [eW, List.length_append]; omega
            have lW2 : W.length ≤ 7 := by rw [eW, List.length_append]; omega
            have wW : ∀ z ∈ W, IsWord z := fun z hz => by
              rw [eW] at hz
              rcases List.mem_append.mp hz with hz | hz
              · exact m4 z hz
              · exact e2v z hz
            have s46 := (Same.refl G4).new (o := .lst (W.map V.str)) hq46
            have ht46 := upd_same (H := G4) (a := q46) (o := .lst (W.map V.str))
            generalize upd G4 q46 (.lst (W.map V.str)) = J46 at s46 ht46 ⊢
            have hru5 := hru5.im s46.im
            have hnd5 := hnd5.ik s46.ik
            have hwq := s46 _ _ hwq
            have I46 := I4.keep s46
            walk_at "rd"
            intro q47 hq47
            obtain ⟨w7, e7, n7, l7, m7⟩ := cut_from5 lW1
            have wl7 : ∀ z ∈ w7, IsWord z := fun z hz => wW z (m7 z hz)
            have eln : (((W.map V.str).length : Nat) : Int) - 5 = (W.length : Int) - 5 := by rw [List.length_map]
            rw [eln, e7]
            have s47 := s46.new (o := .lst (w7.map V.str)) hq47
            have s47' := (Same.refl J46).new (o := .lst (w7.map V.str)) hq47
            have ht47 := upd_same (H := J46) (a := q47) (o := .lst (w7.map V.str))
            have hr46 := upd_old (o := .lst (w7.map V.str)) ht46 hq47
            generalize upd J46 q47 (.lst (w7.map V.str)) = J47 at s47 s47' ht47 hr46 ⊢
            have hru5 := hru5.im s47'.im
            have hnd5 := hnd5.ik s47'.ik
            have hwq := s47' _ _ hwq
            have I47 := I46.keep s47'
            obtain ⟨o47, hp47, ho47⟩ := I47.pool
            have bb4 : bnd 4 ≤ 630 := by decide
            have ho47 := ho47.mono (show _ ≤ 2000 by omega)
            have np47 : p ≠ q47 := by obtain ⟨_, h, _⟩ := I46.pool; exact ne_of_none h hq47
            have c47 : 2000 + bnd 4 < 2 ^ 30 := by omega
            have n46 : q46 ≠ p := fun e => by rw [e] at hq46; obtain ⟨_, h, _⟩ := I4.pool; rw [h] at hq46; cases hq46
            walk_at "rd"
            intro J48 o48 t48 ru7 nd7 f7 kp48 hp48 h48 ht48 hru7 hnd7 hd7 ho7 hs7
            have I48 := I47.draw kp48 hp48 h48
            have hru5 := hru5.im (I47.im kp48)
            have hnd5 := hnd5.ik (I47.ik kp48)
            have hwq := kp48 _ _ hwq nqw
            have hr46 := kp48 _ _ hr46 n46
            have lc5 : (W.map V.str).length + (ws.map V.str).length ≤ sizeLine := by rw [List.length_map, List.length_map, sizeLine_eq]; omega
            walk_at "rd"
            intro q49 hq49
            obtain ⟨X, eX⟩ : ∃ X, X = W ++ ws := ⟨_, rfl⟩
            rw [show W.map V.str ++ ws.map V.str = X.map V.str by rw [eX, List.map_append]]
            have s49 := (Same.refl J48).new (o := .lst (X.map V.str)) hq49
            have ht49 := upd_same (H := J48) (a := q49) (o := .lst (X.map V.str))
            generalize upd J48 q49 (.lst (X.map V.str)) = J49 at s49 ht49 ⊢
            have lX : X.length ≤ 13 := by rw [eX, List.length_append]; omega
            have lX2 : X.length + 1 < scanBound := by
              have : scanBound = 4096 := rfl
              omega
            have mW : ∀ z ∈ W, z ∈ X := fun z hz => by rw [eX]; exact List.mem_append_left _ hz
            have mw : ∀ z ∈ ws, z ∈ X := fun z hz => by rw [eX]; exact List.mem_append_right _ hz
            walk_at "rd"
            intro q50 hq50
            have s50 := s49.new (o := TSO w q50 (setT X)) hq50
            have ht50 := upd_same (H := J49) (a := q50) (o := TSO w q50 (setT X))
            generalize upd J49 q50 (TSO w q50 (setT X)) = J50 at s50 ht50 ⊢
            refine ⟨q50, _, rfl, ht50, fun q51 hq51 => ?_⟩
            have s51 := s50.new (o := .lst ((sortT (setT X)).map V.str)) hq51
            have ht51 := upd_same (H := J50) (a := q51) (o := .lst ((sortT (setT X)).map V.str))
            generalize upd J50 q51 (.lst ((sortT (setT X)).map V.str)) = J51 at s51 ht51 ⊢
            have lsX : (sortT (setT X)).length ≤ 13 := by
              have := setT_len (xs := X)
              rw [sortT_len]; omega
            walk_at "rd"
            intro J52 r52 pX s52 hr52 epX hpX
            have s52 := s51.trans s52
            have rw5 : RuW a X J52 f5.norm ru5 := ⟨hru5.im s52.im, fun z hz => mw z (fw5 z hz)⟩
            have rw7 : RuW a X J52 f7.norm ru7 := ⟨hru7.im s52.im, fun z hz => mW z (m7 z (hs7 z ((recs_mem f7 z).mp hz)))⟩
            have hnd5 := hnd5.ik s52.ik
            have hnd7 := hnd7.ik s52.ik
            have hwq := s52 _ _ hwq
            have dn7 : f7.norm.dep < 4 := by rw [norm_dep]; exact hd7
            refine ⟨_, rfl, ⟨_, SqL.of hr52⟩, ?_⟩
            refine for_list (xs := pX.map fun e => V.ref e.1) (fun l σ H' => Same J52 H' ∧ ∃ b v9 v10 v14, (b = true ↔ ∀ e ∈ pX.take l, f5.nsat e.2 = f7.nsat e.2) ∧ σ = [some (.ref sa), some (.int (0 + (i : Int))), some (.ref p), some (.ref qw), some ru5, some nd5, some ru6, some nd6, some (.bl b), v9, v10, some (.ref q46), some ru7, some nd7, v14]) ?_ ?_ ?_ ?_
            · exact ⟨Same.refl _, true, _, _, _, by simp, rfl⟩
            · rintro l σ H' _ ⟨s11, _⟩
              exact SqL.of (s11 _ _ hr52)
            · rintro l v σ H11 hv ⟨s11, b, v9, v10, v14, hb, rfl⟩
              rw [List.getElem?_map] at hv
              obtain ⟨e, hx, rfl⟩ : ∃ e, pX[l]? = some e ∧ v = .ref e.1 := by
                cases e : pX[l]? with
                | none => rw [e] at hv; cases hv
                | some x => rw [e] at hv; cases hv; exact ⟨x, rfl, rfl⟩
              have hk := s11 _ _ (hpX e (List.mem_of_getElem? hx))
              have nd5' := hnd5.ik s11.ik
              have nd7' := hnd7.ik s11.ik
              have hd7' : f7.dep < 5 := by omega
              have tk : pX.take (l + 1) = pX.take l ++ [e] := by rw [List.take_add_one, hx]; rfl
              cases b with
              | false =>
                walk_at "rd"
                refine ⟨_, _, _, ?_, rfl⟩
                rw [tk]
                exact ⟨(fun z => nomatch z), fun z => hb.mpr fun y hy => z y (List.mem_append_left _ hy)⟩
              | true =>
                walk_at "rd"
                refine ⟨f5, _, e.1, e.2, rfl, hd5, ho5, nd5', .inl (SqL.of hk), fun H12 s12 => ?_⟩
                walk_at "rd"
                refine ⟨f7, _, e.1, e.2, rfl, hd7', ho7, nd7'.ik s12.ik, .inl (SqL.of (s12 _ _ hk)), fun H13 s13 => ?_⟩
                dsimp only [rEq]
                refine ⟨rfl, ?_⟩
                refine ⟨(s11.trans s12).trans s13, _, _, _, _, ?_, rfl⟩
                rw [tk, decide_eq_true_eq]
                refine ⟨fun z y hy => ?_, fun z => congrArg V.bl (z e (List.mem_append_right _ (List.mem_singleton.mpr rfl)))⟩
                rcases List.mem_append.mp hy with hy | hy
                · exact hb.mp rfl y hy
                · cases List.mem_singleton.mp hy
                  exact V.bl.inj z
            · rintro σ H11 ⟨s11, b, v9, v10, v14, hb, rfl⟩
              rw [List.length_map, List.take_length] at hb
              have hb : b = true ↔ ∀ ks, f5.norm.sat ks = f7.norm.sat ks := by
                rw [hb, ← due_iff (R := sortT (setT X)) (fun z hz => by rw [sortT_mem, setT_mem]; exact rw5.2 z hz) (fun z hz => by rw [sortT_mem, setT_mem]; exact rw7.2 z hz), ← epX]
                simp only [List.mem_map, forall_exists_index, and_imp, forall_apply_eq_imp_iff₂, nsat_norm]
              have rw5 := rw5.same s11
              have rw7 := rw7.same s11
              have hwq := s11 _ _ hwq
              have hnd5 := hnd5.ik s11.ik
              have ee : ∀ z : V, (!decide (z = z)) = false := fun z => by simp
              walk_at "rd"
              refine .inl (st_eq rw5.1 rw7.1 (by omega) (by omega) fun b1 G1 t1 c1 => ?_)
              have e1 : b1 = b := Bool.eq_iff_iff.mpr (c1.trans hb.symm)
              subst e1
              walk_at "rd"
              rw [ee]
              have rw5 := rw5.same t1
              have rw7 := rw7.same t1
              have hwq := t1 _ _ hwq
              have hnd5 := hnd5.ik t1.ik
              walk_at "rd"
              refine .inl (st_eq rw7.1 rw5.1 (by omega) (by omega) fun b2 G2 t2 c2 => ?_)
              have e2' : b2 = b1 := Bool.eq_iff_iff.mpr (c2.trans ⟨fun z => hb.mpr fun ks => (z ks).symm, fun z ks => (hb.mp z ks).symm⟩)
              subst e2'
              walk_at "rd"
              rw [ee]
              have rw5 := rw5.same t2
              have hwq := t2 _ _ hwq
              have hnd5 := hnd5.ik t2.ik
              walk_at "rd"
              obtain ⟨qn, xn, en, hn⟩ := hnd5.isT
              subst en
              obtain ⟨pR, xR, yR, eR, hqR, _⟩ := id rw5.1
              subst eR
              refine .inl (st_eqT T.eq_Rule rw5.1 (by omega) hn ?_)
              walk_at "rd"
              refine ⟨f5.norm, _, rfl, rw5.1, dn5, by decide, fun G3 t3 => ⟨⟨_, rfl⟩, ?_⟩⟩
              have rw5 := rw5.same t3
              have hwq := t3 _ _ hwq
              walk_at "rd"
              refine .inl (st_eqS T.eq_Rule rw5.1 (by omega) ?_)
              walk_at "rd"
              refine .inl (st_eqN T.eq_Rule rw5.1 (by omega) ?_)
              walk_at "rd"
              refine .inl (st_eqS T.eq_Rule rw5.1 (by omega) ?_)
              walk_at "rd"
              refine .inl (st_inv rw5 fun G4 r4 t4 x4 => ?_)
              have rw5 := rw5.same t4
              walk_at "rd"
              refine .inl (st_eq rw5.1 x4.1 (by omega) (by (try simp only [Fm.dep]); omega) fun b4 G5 t5 c5 => ?_)
              obtain rfl : b4 = false := by
                cases b4 with
                | false => rfl
                | true =>
                  have := c5.mp rfl []
                  rw [sat_nt] at this
                  cases h : f5.norm.sat [] <;> rw [h] at this <;> cases this
              walk_at "rd"
              exact ⟨I48.same.trans (s52.trans (s11.trans (t1.trans (t2.trans (t3.trans (t4.trans t5)))))), _, _, _, _, _, _, _, _, _, _, _, _, _, _, rfl⟩
    · rintro σ H1 ⟨_, s1, v1, v2, v3, v4, v5, v6, v7, v8, v9, v10, v11, v12, v13, v14, rfl⟩
      exact k H1
end
theorem all_mk {w : World} {K : PySem.W.Frag} {h : Heap} {mg : Str → Option Value} {fa : Addr} (X : K.In h) (G : h.Ns mainGlobals mg) (hfa : mg "law" = some (.ref fa))
    {f1 : Addr}
    {od3 an3 : Option Addr} {sl3 : Array (Option Value)} {oc3 kV3 dc3 pm3 cd3 ct3 : Value}
    {C5 : Addr}
    {f7 : Addr} {nm8 qn8 : Str} {N8 : Addr} {bs8 bm8 : List Value} {sn8 : List Str} {sub8 : List Value} {ab8 : Bool} {col8 : Option Bool} {dd8 : Option Addr} {k08 k18 k28 k38 k58 : Option Value}
    {oc8 : Value} {od8 : Option Addr} {doc8 pm8 : Value} {an8 : Option Addr} {cda8 cc8 : Addr} {ct8 : Value} {osl8 : Array (Option Value)} {ccl8 : Value} {cdd8 : Option Addr} {vs8 : Array Value} {ccs8 : Array (Option Value)} {tf8 : Tok} {cl8 : Value} {cld8 : Option Addr} {csl8 : Array (Option Value)}
    {C30 : Addr}
    {f32 : Addr} {nm33 qn33 : Str} {N33 : Addr} {bs33 bm33 : List Value} {sn33 : List Str} {sub33 : List Value} {ab33 : Bool} {col33 : Option Bool} {dd33 : Option Addr} {k033 k133 k233 k333 k533 : Option Value}
    {oc33 : Value} {od33 : Option Addr} {doc33 pm33 : Value} {an33 : Option Addr} {cda33 cc33 : Addr} {ct33 : Value} {osl33 : Array (Option Value)} {ccl33 : Value} {cdd33 : Option Addr} {vs33 : Array Value} {ccs33 : Array (Option Value)} {tf33 : Tok} {cl33 : Value} {cld33 : Option Addr} {csl33 : Array (Option Value)}
    {t56 : Tok}
    {C57 : Addr}
    {f66 : Addr}
    {od71 an71 : Option Addr} {sl71 : Array (Option Value)} {oc71 kV71 dc71 pm71 cd71 ct71 : Value}
    {f72 p73 : Addr} {rs76 : List Value}
    {od77 an77 : Option Addr} {sl77 : Array (Option Value)} {oc77 kV77 dc77 pm77 cd77 ct77 : Value}
    {f78 p79 : Addr} {rs82 : List Value}
    {od83 an83 : Option Addr} {sl83 : Array (Option Value)} {oc83 kV83 dc83 pm83 cd83 ct83 : Value}
    {f84 p85 : Addr} {rs88 : List Value}
    {od89 an89 : Option Addr} {sl89 : Array (Option Value)} {oc89 kV89 dc89 pm89 cd89 ct89 : Value}
    {f90 : Addr}
    {od93 an93 : Option Addr} {sl93 : Array (Option Value)} {oc93 kV93 dc93 pm93 cd93 ct93 : Value}
    {f94 : Addr}
    {od97 an97 : Option Addr} {sl97 : Array (Option Value)} {oc97 kV97 dc97 pm97 cd97 ct97 : Value}
    {f98 : Addr}
    {od101 an101 : Option Addr} {sl101 : Array (Option Value)} {oc101 kV101 dc101 pm101 cd101 ct101 : Value}
    {f102 : Addr}
    {od105 an105 : Option Addr} {sl105 : Array (Option Value)} {oc105 kV105 dc105 pm105 cd105 ct105 : Value}
    {f106 : Addr}
    {od109 an109 : Option Addr} {sl109 : Array (Option Value)} {oc109 kV109 dc109 pm109 cd109 ct109 : Value}
    {f110 : Addr}
    {od113 an113 : Option Addr} {sl113 : Array (Option Value)} {oc113 kV113 dc113 pm113 cd113 ct113 : Value}
    {f114 : Addr}
    {od117 an117 : Option Addr} {sl117 : Array (Option Value)} {oc117 kV117 dc117 pm117 cd117 ct117 : Value}
    {f118 : Addr}
    {od121 an121 : Option Addr} {sl121 : Array (Option Value)} {oc121 kV121 dc121 pm121 cd121 ct121 : Value}
    {f138 : Addr}
    {od140 an140 : Option Addr} {sl140 : Array (Option Value)} {oc140 kV140 dc140 pm140 cd140 ct140 : Value}
    {f141 : Addr}
    {od143 an143 : Option Addr} {sl143 : Array (Option Value)} {oc143 kV143 dc143 pm143 cd143 ct143 : Value}
    {f144 : Addr}
    {od146 an146 : Option Addr} {sl146 : Array (Option Value)} {oc146 kV146 dc146 pm146 cd146 ct146 : Value}
    {f147 : Addr}
    {od149 an149 : Option Addr} {sl149 : Array (Option Value)} {oc149 kV149 dc149 pm149 cd149 ct149 : Value}
    {f150 : Addr}
    {od152 an152 : Option Addr} {sl152 : Array (Option Value)} {oc152 kV152 dc152 pm152 cd152 ct152 : Value}
    {f153 : Addr}
    {od155 an155 : Option Addr} {sl155 : Array (Option Value)} {oc155 kV155 dc155 pm155 cd155 ct155 : Value}
    {f156 : Addr}
    {od158 an158 : Option Addr} {sl158 : Array (Option Value)} {oc158 kV158 dc158 pm158 cd158 ct158 : Value}
    {f159 : Addr}
    {od161 an161 : Option Addr} {sl161 : Array (Option Value)} {oc161 kV161 dc161 pm161 cd161 ct161 : Value}
    {f162 : Addr}
    {od164 an164 : Option Addr} {sl164 : Array (Option Value)} {oc164 kV164 dc164 pm164 cd164 ct164 : Value}
    {f165 : Addr}
    {od167 an167 : Option Addr} {sl167 : Array (Option Value)} {oc167 kV167 dc167 pm167 cd167 ct167 : Value}
    {f168 : Addr}
    {od170 an170 : Option Addr} {sl170 : Array (Option Value)} {oc170 kV170 dc170 pm170 cd170 ct170 : Value}
    {f171 : Addr}
    {od173 an173 : Option Addr} {sl173 : Array (Option Value)} {oc173 kV173 dc173 pm173 cd173 ct173 : Value}
    {od174 an174 : Option Addr} {sl174 : Array (Option Value)} {oc174 kV174 dc174 pm174 cd174 ct174 : Value}
    (a2 : PySem.W.nsIn K mainGlobals "is_word" = some (some (.ref f1)))
    (l3 : K.lookup f1 = some ⟨oc3, od3, .func (PySem.W.fnOf "is_word" "is_word" (defArgs s_is_word) (defBody s_is_word) (defScope s_is_word) .none kV3 dc3 pm3 an3 cd3 ct3), sl3⟩)
    (c3 : PySem.W.codeIn K cd3 "is_word" = true)
    (k3 : PySem.W.keepIn K (.ref f1) = true)
    (z4 : PySem.W.nsIn K cStatics "thirdparty.any" = some none)
    (a6 : PySem.W.nsIn K mainGlobals "BadWord" = some (some (.ref C5)))
    (e9 : K.lookup C5 = some (excClassObj nm8 qn8 C5 N8 bs8 bm8 true sn8 sub8 ab8 col8 dd8 k08 k18 k28 k38 k58 "ValueError.__new__"))
    (e10 : PySem.HandSPX.refsVE bm8 = true)
    (e11 : PySem.W.findIn K (.ref C5) "__setattr__" = some (some (.builtin "object.__setattr__")))
    (e12 : PySem.W.findIn K (.ref C5) "__getattribute__" = some (some (.builtin "BaseException.__getattribute__")))
    (e13 : PySem.W.findIn K (.ref C5) "__getattr__" = some none)
    (e14 : PySem.W.findIn K (.ref C5) "__init__" = some (some (.ref f7)))
    (e15 : PySem.W.typeIn K (.ref f7) = some (.type "function"))
    (e16 : PySem.W.keepIn K (.ref C5) = true)
    (e17 : PySem.W.subIn K (.ref C5) (.type "BaseException") = some true)
    (e18 : PySem.W.subIn K (.ref C5) (.type "ValueError") = some true)
    (e19 : PySem.W.typeIn K (.ref C5) = some (.type "type"))
    (e20 : PySem.W.hasDictIn K C5 = true)
    (e21 : PySem.W.ks_superIn K C5 C5 "__init__" = some (some (.builtin "ValueError.__init__")))
    (e22 : PySem.W.mroIn K C5 (.ref C5) = some true)
    (e23 : PySem.W.exmOne K (.ref C5) (.ref C5) = some true)
    (e24 : K.lookup f7 = some ⟨oc8, od8, .func (PySem.W.ksFn "__init__" "BadWord.__init__" (defArgs s_BadWordU_initU) (defBody s_BadWordU_initU) (defScope s_BadWordU_initU) .none .none doc8 pm8 an8 (.ref cda8) ct8 cc8), osl8⟩)
    (e25 : PySem.W.codeIn K (.ref cda8) "BadWord.__init__" = true)
    (e26 : K.lookup cda8 = some ⟨ccl8, cdd8, .fields vs8, ccs8⟩)
    (e27 : vs8[2]? = some (.str P.main.file tf8))
    (e28 : K.lookup cc8 = some ⟨cl8, cld8, .cell (some (.ref C5)), csl8⟩)
    (e29 : PySem.W.findIn K (.ref C5) "word" = some none)
    (a31 : PySem.W.nsIn K mainGlobals "TooMany" = some (some (.ref C30)))
    (e34 : K.lookup C30 = some (excClassObj nm33 qn33 C30 N33 bs33 bm33 true sn33 sub33 ab33 col33 dd33 k033 k133 k233 k333 k533 "ValueError.__new__"))
    (e35 : PySem.HandSPX.refsVE bm33 = true)
    (e36 : PySem.W.findIn K (.ref C30) "__setattr__" = some (some (.builtin "object.__setattr__")))
    (e37 : PySem.W.findIn K (.ref C30) "__getattribute__" = some (some (.builtin "BaseException.__getattribute__")))
    (e38 : PySem.W.findIn K (.ref C30) "__getattr__" = some none)
    (e39 : PySem.W.findIn K (.ref C30) "__init__" = some (some (.ref f32)))
    (e40 : PySem.W.typeIn K (.ref f32) = some (.type "function"))
    (e41 : PySem.W.keepIn K (.ref C30) = true)
    (e42 : PySem.W.subIn K (.ref C30) (.type "BaseException") = some true)
    (e43 : PySem.W.subIn K (.ref C30) (.type "ValueError") = some true)
    (e44 : PySem.W.typeIn K (.ref C30) = some (.type "type"))
    (e45 : PySem.W.hasDictIn K C30 = true)
    (e46 : PySem.W.ks_superIn K C30 C30 "__init__" = some (some (.builtin "ValueError.__init__")))
    (e47 : PySem.W.mroIn K C30 (.ref C30) = some true)
    (e48 : PySem.W.exmOne K (.ref C30) (.ref C30) = some true)
    (e49 : K.lookup f32 = some ⟨oc33, od33, .func (PySem.W.ksFn "__init__" "TooMany.__init__" (defArgs s_TooManyU_initU) (defBody s_TooManyU_initU) (defScope s_TooManyU_initU) .none .none doc33 pm33 an33 (.ref cda33) ct33 cc33), osl33⟩)
    (e50 : PySem.W.codeIn K (.ref cda33) "TooMany.__init__" = true)
    (e51 : K.lookup cda33 = some ⟨ccl33, cdd33, .fields vs33, ccs33⟩)
    (e52 : vs33[2]? = some (.str P.main.file tf33))
    (e53 : K.lookup cc33 = some ⟨cl33, cld33, .cell (some (.ref C30)), csl33⟩)
    (e54 : PySem.W.findIn K (.ref C30) "what" = some none)
    (z55 : PySem.W.nsIn K mainGlobals "MOST_RECORDS" = some (some (.int 6 t56)))
    (a58 : PySem.W.nsIn K mainGlobals "Rule" = some (some (.ref C57)))
    (r59 : PySem.W.readsIn K C57 (.type "type") = true)
    (s60 : PySem.W.specialIn K (.ref C57) "__getattribute__" = some (some (.builtin "type.__getattribute__")))
    (q61 : PySem.W.plainGet K C57 Str.empty = true)
    (q62 : PySem.W.hasDictIn K C57 = true)
    (q63 : PySem.W.plainOver K C57 = true)
    (q64 : PySem.W.findIn K (.ref C57) "__setattr__" = some (some (.builtin "object.__setattr__")))
    (z65 : PySem.W.findIn K (.ref C57) "form" = some none)
    (q67 : PySem.W.makesIn K C57 = true)
    (q68 : PySem.W.findIn K (.ref C57) "__init__" = some (some (.ref f66)))
    (q69 : PySem.W.isFn K (.ref f66) = true)
    (q70 : PySem.W.keepIn K (.ref C57) = true)
    (l71 : K.lookup f66 = some ⟨oc71, od71, .func (PySem.W.fnOf "__init__" "Rule.__init__" (defArgs s_RuleU_initU) (defBody s_RuleU_initU) (defScope s_RuleU_initU) .none kV71 dc71 pm71 an71 cd71 ct71), sl71⟩)
    (c71 : PySem.W.codeIn K cd71 "Rule.__init__" = true)
    (k71 : PySem.W.keepIn K (.ref f66) = true)
    (z74 : PySem.W.findCls K (.ref C57) (.type "type") "has" = some (.get (.builtin "staticmethod.__get__") (.ref p73) .none (.ref C57)))
    (r75 : PySem.W.recIn K p73 "staticmethod" = some (.ref f72 :: rs76))
    (l77 : K.lookup f72 = some ⟨oc77, od77, .func (PySem.W.fnOf "has" "Rule.has" (defArgs s_Rule_has) (defBody s_Rule_has) (defScope s_Rule_has) .none kV77 dc77 pm77 an77 cd77 ct77), sl77⟩)
    (c77 : PySem.W.codeIn K cd77 "Rule.has" = true)
    (k77 : PySem.W.keepIn K (.ref f72) = true)
    (z80 : PySem.W.findCls K (.ref C57) (.type "type") "together" = some (.get (.builtin "staticmethod.__get__") (.ref p79) .none (.ref C57)))
    (r81 : PySem.W.recIn K p79 "staticmethod" = some (.ref f78 :: rs82))
    (l83 : K.lookup f78 = some ⟨oc83, od83, .func (PySem.W.fnOf "together" "Rule.together" (defArgs s_Rule_together) (defBody s_Rule_together) (defScope s_Rule_together) .none kV83 dc83 pm83 an83 cd83 ct83), sl83⟩)
    (c83 : PySem.W.codeIn K cd83 "Rule.together" = true)
    (k83 : PySem.W.keepIn K (.ref f78) = true)
    (z86 : PySem.W.findCls K (.ref C57) (.type "type") "always" = some (.get (.builtin "staticmethod.__get__") (.ref p85) .none (.ref C57)))
    (r87 : PySem.W.recIn K p85 "staticmethod" = some (.ref f84 :: rs88))
    (l89 : K.lookup f84 = some ⟨oc89, od89, .func (PySem.W.fnOf "always" "Rule.always" (defArgs s_Rule_always) (defBody s_Rule_always) (defScope s_Rule_always) .none kV89 dc89 pm89 an89 cd89 ct89), sl89⟩)
    (c89 : PySem.W.codeIn K cd89 "Rule.always" = true)
    (k89 : PySem.W.keepIn K (.ref f84) = true)
    (q91 : PySem.W.findIn K (.ref C57) "records" = some (some (.ref f90)))
    (q92 : PySem.W.isFn K (.ref f90) = true)
    (l93 : K.lookup f90 = some ⟨oc93, od93, .func (PySem.W.fnOf "records" "Rule.records" (defArgs s_Rule_records) (defBody s_Rule_records) (defScope s_Rule_records) .none kV93 dc93 pm93 an93 cd93 ct93), sl93⟩)
    (c93 : PySem.W.codeIn K cd93 "Rule.records" = true)
    (k93 : PySem.W.keepIn K (.ref f90) = true)
    (q95 : PySem.W.findIn K (.ref C57) "__call__" = some (some (.ref f94)))
    (q96 : PySem.W.isFn K (.ref f94) = true)
    (l97 : K.lookup f94 = some ⟨oc97, od97, .func (PySem.W.fnOf "__call__" "Rule.__call__" (defArgs s_RuleU_callU) (defBody s_RuleU_callU) (defScope s_RuleU_callU) .none kV97 dc97 pm97 an97 cd97 ct97), sl97⟩)
    (c97 : PySem.W.codeIn K cd97 "Rule.__call__" = true)
    (k97 : PySem.W.keepIn K (.ref f94) = true)
    (q99 : PySem.W.findIn K (.ref C57) "__and__" = some (some (.ref f98)))
    (q100 : PySem.W.isFn K (.ref f98) = true)
    (l101 : K.lookup f98 = some ⟨oc101, od101, .func (PySem.W.fnOf "__and__" "Rule.__and__" (defArgs s_RuleU_andU) (defBody s_RuleU_andU) (defScope s_RuleU_andU) .none kV101 dc101 pm101 an101 cd101 ct101), sl101⟩)
    (c101 : PySem.W.codeIn K cd101 "Rule.__and__" = true)
    (k101 : PySem.W.keepIn K (.ref f98) = true)
    (q103 : PySem.W.findIn K (.ref C57) "__or__" = some (some (.ref f102)))
    (q104 : PySem.W.isFn K (.ref f102) = true)
    (l105 : K.lookup f102 = some ⟨oc105, od105, .func (PySem.W.fnOf "__or__" "Rule.__or__" (defArgs s_RuleU_orU) (defBody s_RuleU_orU) (defScope s_RuleU_orU) .none kV105 dc105 pm105 an105 cd105 ct105), sl105⟩)
    (c105 : PySem.W.codeIn K cd105 "Rule.__or__" = true)
    (k105 : PySem.W.keepIn K (.ref f102) = true)
    (q107 : PySem.W.findIn K (.ref C57) "__rshift__" = some (some (.ref f106)))
    (q108 : PySem.W.isFn K (.ref f106) = true)
    (l109 : K.lookup f106 = some ⟨oc109, od109, .func (PySem.W.fnOf "__rshift__" "Rule.__rshift__" (defArgs s_RuleU_rshiftU) (defBody s_RuleU_rshiftU) (defScope s_RuleU_rshiftU) .none kV109 dc109 pm109 an109 cd109 ct109), sl109⟩)
    (c109 : PySem.W.codeIn K cd109 "Rule.__rshift__" = true)
    (k109 : PySem.W.keepIn K (.ref f106) = true)
    (q111 : PySem.W.findIn K (.ref C57) "__invert__" = some (some (.ref f110)))
    (q112 : PySem.W.isFn K (.ref f110) = true)
    (l113 : K.lookup f110 = some ⟨oc113, od113, .func (PySem.W.fnOf "__invert__" "Rule.__invert__" (defArgs s_RuleU_invertU) (defBody s_RuleU_invertU) (defScope s_RuleU_invertU) .none kV113 dc113 pm113 an113 cd113 ct113), sl113⟩)
    (c113 : PySem.W.codeIn K cd113 "Rule.__invert__" = true)
    (k113 : PySem.W.keepIn K (.ref f110) = true)
    (q115 : PySem.W.findIn K (.ref C57) "__eq__" = some (some (.ref f114)))
    (q116 : PySem.W.isFn K (.ref f114) = true)
    (l117 : K.lookup f114 = some ⟨oc117, od117, .func (PySem.W.fnOf "__eq__" "Rule.__eq__" (defArgs s_RuleU_eqU) (defBody s_RuleU_eqU) (defScope s_RuleU_eqU) .none kV117 dc117 pm117 an117 cd117 ct117), sl117⟩)
    (c117 : PySem.W.codeIn K cd117 "Rule.__eq__" = true)
    (k117 : PySem.W.keepIn K (.ref f114) = true)
    (q119 : PySem.W.findIn K (.ref C57) "__str__" = some (some (.ref f118)))
    (q120 : PySem.W.isFn K (.ref f118) = true)
    (l121 : K.lookup f118 = some ⟨oc121, od121, .func (PySem.W.fnOf "__str__" "Rule.__str__" (defArgs s_RuleU_strU) (defBody s_RuleU_strU) (defScope s_RuleU_strU) .none kV121 dc121 pm121 an121 cd121 ct121), sl121⟩)
    (c121 : PySem.W.codeIn K cd121 "Rule.__str__" = true)
    (k121 : PySem.W.keepIn K (.ref f118) = true)
    (q122 : PySem.W.findIn K (.ref C57) "__call__" = some (some (.ref f94)))
    (q123 : PySem.W.isFn K (.ref f94) = true)
    (q124 : PySem.W.fnIn K f94 = true)
    (z125 : PySem.W.selfFirst K C57 = true)
    (q126 : PySem.W.findIn K (.ref C57) "__class__" = some (some (.builtin "object.__class__")))
    (q127 : PySem.W.specialIn K (.builtin "object.__class__") "__get__" = some (some (.builtin "getset_descriptor.__get__")))
    (q128 : PySem.W.takesIn K (.builtin "object.__class__") = some true)
    (q129 : PySem.W.mroIn K C57 (.type "object") = some true)
    (q130 : PySem.W.kitOne K (.ref C57) (.ref C57) = some true)
    (q131 : PySem.W.kitOne K (.type "tuple") (.ref C57) = some false)
    (q132 : PySem.W.kitOne K (.type "str") (.ref C57) = some false)
    (q133 : PySem.W.kitOne K (.type "NoneType") (.ref C57) = some false)
    (q134 : PySem.W.notFirst K C57 (.type "tuple") = true)
    (q135 : PySem.W.notFirst K C57 (.type "str") = true)
    (q136 : PySem.W.notFirst K C57 (.type "NoneType") = true)
    (q137 : PySem.W.findIn K (.ref C57) "__ne__" = some (some (.builtin "object.__ne__")))
    (a139 : PySem.W.nsIn K mainGlobals "mentioned" = some (some (.ref f138)))
    (l140 : K.lookup f138 = some ⟨oc140, od140, .func (PySem.W.fnOf "mentioned" "mentioned" (defArgs s_mentioned) (defBody s_mentioned) (defScope s_mentioned) .none kV140 dc140 pm140 an140 cd140 ct140), sl140⟩)
    (c140 : PySem.W.codeIn K cd140 "mentioned" = true)
    (k140 : PySem.W.keepIn K (.ref f138) = true)
    (a142 : PySem.W.nsIn K mainGlobals "allows" = some (some (.ref f141)))
    (l143 : K.lookup f141 = some ⟨oc143, od143, .func (PySem.W.fnOf "allows" "allows" (defArgs s_allows) (defBody s_allows) (defScope s_allows) .none kV143 dc143 pm143 an143 cd143 ct143), sl143⟩)
    (c143 : PySem.W.codeIn K cd143 "allows" = true)
    (k143 : PySem.W.keepIn K (.ref f141) = true)
    (a145 : PySem.W.nsIn K mainGlobals "spelled" = some (some (.ref f144)))
    (l146 : K.lookup f144 = some ⟨oc146, od146, .func (PySem.W.fnOf "spelled" "spelled" (defArgs s_spelled) (defBody s_spelled) (defScope s_spelled) .none kV146 dc146 pm146 an146 cd146 ct146), sl146⟩)
    (c146 : PySem.W.codeIn K cd146 "spelled" = true)
    (k146 : PySem.W.keepIn K (.ref f144) = true)
    (a148 : PySem.W.nsIn K mainGlobals "subsets" = some (some (.ref f147)))
    (l149 : K.lookup f147 = some ⟨oc149, od149, .func (PySem.W.fnOf "subsets" "subsets" (defArgs s_subsets) (defBody s_subsets) (defScope s_subsets) .none kV149 dc149 pm149 an149 cd149 ct149), sl149⟩)
    (c149 : PySem.W.codeIn K cd149 "subsets" = true)
    (k149 : PySem.W.keepIn K (.ref f147) = true)
    (a151 : PySem.W.nsIn K mainGlobals "combined" = some (some (.ref f150)))
    (l152 : K.lookup f150 = some ⟨oc152, od152, .func (PySem.W.fnOf "combined" "combined" (defArgs s_combined) (defBody s_combined) (defScope s_combined) .none kV152 dc152 pm152 an152 cd152 ct152), sl152⟩)
    (c152 : PySem.W.codeIn K cd152 "combined" = true)
    (k152 : PySem.W.keepIn K (.ref f150) = true)
    (a154 : PySem.W.nsIn K mainGlobals "allow_the_same" = some (some (.ref f153)))
    (l155 : K.lookup f153 = some ⟨oc155, od155, .func (PySem.W.fnOf "allow_the_same" "allow_the_same" (defArgs s_allow_the_same) (defBody s_allow_the_same) (defScope s_allow_the_same) .none kV155 dc155 pm155 an155 cd155 ct155), sl155⟩)
    (c155 : PySem.W.codeIn K cd155 "allow_the_same" = true)
    (k155 : PySem.W.keepIn K (.ref f153) = true)
    (a157 : PySem.W.nsIn K mainGlobals "_law_pool" = some (some (.ref f156)))
    (l158 : K.lookup f156 = some ⟨oc158, od158, .func (PySem.W.fnOf "_law_pool" "_law_pool" (defArgs s_law_pool) (defBody s_law_pool) (defScope s_law_pool) .none kV158 dc158 pm158 an158 cd158 ct158), sl158⟩)
    (c158 : PySem.W.codeIn K cd158 "_law_pool" = true)
    (k158 : PySem.W.keepIn K (.ref f156) = true)
    (a160 : PySem.W.nsIn K mainGlobals "_law_draw" = some (some (.ref f159)))
    (l161 : K.lookup f159 = some ⟨oc161, od161, .func (PySem.W.fnOf "_law_draw" "_law_draw" (defArgs s_law_draw) (defBody s_law_draw) (defScope s_law_draw) .none kV161 dc161 pm161 an161 cd161 ct161), sl161⟩)
    (c161 : PySem.W.codeIn K cd161 "_law_draw" = true)
    (k161 : PySem.W.keepIn K (.ref f159) = true)
    (a163 : PySem.W.nsIn K mainGlobals "_law_word" = some (some (.ref f162)))
    (l164 : K.lookup f162 = some ⟨oc164, od164, .func (PySem.W.fnOf "_law_word" "_law_word" (defArgs s_law_word) (defBody s_law_word) (defScope s_law_word) .none kV164 dc164 pm164 an164 cd164 ct164), sl164⟩)
    (c164 : PySem.W.codeIn K cd164 "_law_word" = true)
    (k164 : PySem.W.keepIn K (.ref f162) = true)
    (a166 : PySem.W.nsIn K mainGlobals "_law_built" = some (some (.ref f165)))
    (l167 : K.lookup f165 = some ⟨oc167, od167, .func (PySem.W.fnOf "_law_built" "_law_built" (defArgs s_law_built) (defBody s_law_built) (defScope s_law_built) .none kV167 dc167 pm167 an167 cd167 ct167), sl167⟩)
    (c167 : PySem.W.codeIn K cd167 "_law_built" = true)
    (k167 : PySem.W.keepIn K (.ref f165) = true)
    (a169 : PySem.W.nsIn K mainGlobals "_law_allows" = some (some (.ref f168)))
    (l170 : K.lookup f168 = some ⟨oc170, od170, .func (PySem.W.fnOf "_law_allows" "_law_allows" (defArgs s_law_allows) (defBody s_law_allows) (defScope s_law_allows) .none kV170 dc170 pm170 an170 cd170 ct170), sl170⟩)
    (c170 : PySem.W.codeIn K cd170 "_law_allows" = true)
    (k170 : PySem.W.keepIn K (.ref f168) = true)
    (a172 : PySem.W.nsIn K mainGlobals "_law_subsets" = some (some (.ref f171)))
    (l173 : K.lookup f171 = some ⟨oc173, od173, .func (PySem.W.fnOf "_law_subsets" "_law_subsets" (defArgs s_law_subsets) (defBody s_law_subsets) (defScope s_law_subsets) .none kV173 dc173 pm173 an173 cd173 ct173), sl173⟩)
    (c173 : PySem.W.codeIn K cd173 "_law_subsets" = true)
    (k173 : PySem.W.keepIn K (.ref f171) = true)
    (l174 : K.lookup fa = some ⟨oc174, od174, .func (PySem.W.fnOf "law" "law" (defArgs s_law) (defBody s_law) (defScope s_law) .none kV174 dc174 pm174 an174 cd174 ct174), sl174⟩)
    (c174 : PySem.W.codeIn K cd174 "law" = true)
    (k174 : PySem.W.keepIn K (.ref fa) = true)
    (z175 : PySem.W.nsIn K mainGlobals "len" = some none)
    (z176 : PySem.W.nsIn K mainGlobals "isinstance" = some none)
    (z177 : PySem.W.nsIn K mainGlobals "str" = some none)
    (z178 : PySem.W.nsIn K mainGlobals "super" = some none)
    (z179 : PySem.W.nsIn K mainGlobals "sorted" = some none)
    (z180 : PySem.W.nsIn K mainGlobals "set" = some none)
    (z181 : PySem.W.nsIn K mainGlobals "all" = some none)
    (z182 : PySem.W.nsIn K mainGlobals "abs" = some none)
    (z183 : PySem.W.nsIn K mainGlobals "int" = some none)
    (z184 : PySem.W.nsIn K mainGlobals "range" = some none)
    (z185 : PySem.W.nsIn K mainGlobals "max" = some none)
    (z186 : PySem.W.nsIn K mainGlobals "min" = some none)
    : ∃ fd : FuncData, (∀ (s : Shared) (v : Value), BindsTo s fd ⟨[v], []⟩ [("_law_script", v)]) ∧ ∀ base : Heap, K.In base → base.Ns mainGlobals mg → FnOk P w K mg base CX0 22 fa fd ["_law_script"] (spLaw K) := by
  have F3 := fun_mk (st := s_is_word) l3 c3 k3
  have b3 := F3.binds (ps := ["thing"]) fun _ _ _ _ _ _ us hl => match us, hl with | [_], _ => rfl
  have F71 := fun_mk (st := s_RuleU_initU) l71 c71 k71
  have b71 := F71.binds (ps := ["self", "form"]) fun _ _ _ _ _ _ us hl => match us, hl with | [_, _], _ => rfl
  have F77 := fun_mk (st := s_Rule_has) l77 c77 k77
  have b77 := F77.binds (ps := ["record"]) fun _ _ _ _ _ _ us hl => match us, hl with | [_], _ => rfl
  have F83 := fun_mk (st := s_Rule_together) l83 c83 k83
  have F89 := fun_mk (st := s_Rule_always) l89 c89 k89
  have b89 := F89.binds (ps := []) fun _ _ _ _ _ _ us hl => match us, hl with | [], _ => rfl
  have F93 := fun_mk (st := s_Rule_records) l93 c93 k93
  have b93 := F93.binds (ps := ["self"]) fun _ _ _ _ _ _ us hl => match us, hl with | [_], _ => rfl
  have F97 := fun_mk (st := s_RuleU_callU) l97 c97 k97
  have b97 := F97.binds (ps := ["self", "kept"]) fun _ _ _ _ _ _ us hl => match us, hl with | [_, _], _ => rfl
  have F101 := fun_mk (st := s_RuleU_andU) l101 c101 k101
  have b101 := F101.binds (ps := ["self", "other"]) fun _ _ _ _ _ _ us hl => match us, hl with | [_, _], _ => rfl
  have F105 := fun_mk (st := s_RuleU_orU) l105 c105 k105
  have b105 := F105.binds (ps := ["self", "other"]) fun _ _ _ _ _ _ us hl => match us, hl with | [_, _], _ => rfl
  have F109 := fun_mk (st := s_RuleU_rshiftU) l109 c109 k109
  have b109 := F109.binds (ps := ["self", "other"]) fun _ _ _ _ _ _ us hl => match us, hl with | [_, _], _ => rfl
  have F113 := fun_mk (st := s_RuleU_invertU) l113 c113 k113
  have b113 := F113.binds (ps := ["self"]) fun _ _ _ _ _ _ us hl => match us, hl with | [_], _ => rfl
  have F117 := fun_mk (st := s_RuleU_eqU) l117 c117 k117
  have b117 := F117.binds (ps := ["self", "other"]) fun _ _ _ _ _ _ us hl => match us, hl with | [_, _], _ => rfl
  have F121 := fun_mk (st := s_RuleU_strU) l121 c121 k121
  have b121 := F121.binds (ps := ["self"]) fun _ _ _ _ _ _ us hl => match us, hl with | [_], _ => rfl
  have F140 := fun_mk (st := s_mentioned) l140 c140 k140
  have b140 := F140.binds (ps := ["form"]) fun _ _ _ _ _ _ us hl => match us, hl with | [_], _ => rfl
  have F143 := fun_mk (st := s_allows) l143 c143 k143
  have b143 := F143.binds (ps := ["form", "kept"]) fun _ _ _ _ _ _ us hl => match us, hl with | [_, _], _ => rfl
  have F146 := fun_mk (st := s_spelled) l146 c146 k146
  have b146 := F146.binds (ps := ["form"]) fun _ _ _ _ _ _ us hl => match us, hl with | [_], _ => rfl
  have F149 := fun_mk (st := s_subsets) l149 c149 k149
  have b149 := F149.binds (ps := ["records"]) fun _ _ _ _ _ _ us hl => match us, hl with | [_], _ => rfl
  have F152 := fun_mk (st := s_combined) l152 c152 k152
  have b152 := F152.binds (ps := ["word", "one", "other"]) fun _ _ _ _ _ _ us hl => match us, hl with | [_, _, _], _ => rfl
  have F155 := fun_mk (st := s_allow_the_same) l155 c155 k155
  have b155 := F155.binds (ps := ["one", "other"]) fun _ _ _ _ _ _ us hl => match us, hl with | [_, _], _ => rfl
  have F158 := fun_mk (st := s_law_pool) l158 c158 k158
  have b158 := F158.binds (ps := ["_law_script", "_law_at"]) fun _ _ _ _ _ _ us hl => match us, hl with | [_, _], _ => rfl
  have F161 := fun_mk (st := s_law_draw) l161 c161 k161
  have b161 := F161.binds (ps := ["_law_pool_here", "_law_many"]) fun _ _ _ _ _ _ us hl => match us, hl with | [_, _], _ => rfl
  have F164 := fun_mk (st := s_law_word) l164 c164 k164
  have b164 := F164.binds (ps := ["_law_pool_here"]) fun _ _ _ _ _ _ us hl => match us, hl with | [_], _ => rfl
  have F167 := fun_mk (st := s_law_built) l167 c167 k167
  have b167 := F167.binds (ps := ["_law_pool_here", "_law_records", "_law_depth"]) fun _ _ _ _ _ _ us hl => match us, hl with | [_, _, _], _ => rfl
  have F170 := fun_mk (st := s_law_allows) l170 c170 k170
  have b170 := F170.binds (ps := ["_law_node", "_law_kept"]) fun _ _ _ _ _ _ us hl => match us, hl with | [_, _], _ => rfl
  have F173 := fun_mk (st := s_law_subsets) l173 c173 k173
  have b173 := F173.binds (ps := ["_law_records"]) fun _ _ _ _ _ _ us hl => match us, hl with | [_], _ => rfl
  have F174 := fun_mk (st := s_law) l174 c174 k174
  have b174 := F174.binds (ps := ["_law_script"]) fun _ _ _ _ _ _ us hl => match us, hl with | [_], _ => rfl
  have T : Txt K mg ⟨f1, C5, f7, C30, f32, C57, f66, f72, p73, f78, p79, f84, p85, f90, f94, f98, f102, f106, f110, f114, f118, f138, f141, f144, f147, f150, f153, f156, f159, f162, f165, f168, f171, fa⟩ ⟨PySem.W.fnOf "is_word" "is_word" (defArgs s_is_word) (defBody s_is_word) (defScope s_is_word) .none kV3 dc3 pm3 an3 cd3 ct3, PySem.W.fnOf "__init__" "Rule.__init__" (defArgs s_RuleU_initU) (defBody s_RuleU_initU) (defScope s_RuleU_initU) .none kV71 dc71 pm71 an71 cd71 ct71, PySem.W.fnOf "has" "Rule.has" (defArgs s_Rule_has) (defBody s_Rule_has) (defScope s_Rule_has) .none kV77 dc77 pm77 an77 cd77 ct77, PySem.W.fnOf "together" "Rule.together" (defArgs s_Rule_together) (defBody s_Rule_together) (defScope s_Rule_together) .none kV83 dc83 pm83 an83 cd83 ct83, PySem.W.fnOf "always" "Rule.always" (defArgs s_Rule_always) (defBody s_Rule_always) (defScope s_Rule_always) .none kV89 dc89 pm89 an89 cd89 ct89, PySem.W.fnOf "records" "Rule.records" (defArgs s_Rule_records) (defBody s_Rule_records) (defScope s_Rule_records) .none kV93 dc93 pm93 an93 cd93 ct93, PySem.W.fnOf "__call__" "Rule.__call__" (defArgs s_RuleU_callU) (defBody s_RuleU_callU) (defScope s_RuleU_callU) .none kV97 dc97 pm97 an97 cd97 ct97, PySem.W.fnOf "__and__" "Rule.__and__" (defArgs s_RuleU_andU) (defBody s_RuleU_andU) (defScope s_RuleU_andU) .none kV101 dc101 pm101 an101 cd101 ct101, PySem.W.fnOf "__or__" "Rule.__or__" (defArgs s_RuleU_orU) (defBody s_RuleU_orU) (defScope s_RuleU_orU) .none kV105 dc105 pm105 an105 cd105 ct105, PySem.W.fnOf "__rshift__" "Rule.__rshift__" (defArgs s_RuleU_rshiftU) (defBody s_RuleU_rshiftU) (defScope s_RuleU_rshiftU) .none kV109 dc109 pm109 an109 cd109 ct109, PySem.W.fnOf "__invert__" "Rule.__invert__" (defArgs s_RuleU_invertU) (defBody s_RuleU_invertU) (defScope s_RuleU_invertU) .none kV113 dc113 pm113 an113 cd113 ct113, PySem.W.fnOf "__eq__" "Rule.__eq__" (defArgs s_RuleU_eqU) (defBody s_RuleU_eqU) (defScope s_RuleU_eqU) .none kV117 dc117 pm117 an117 cd117 ct117, PySem.W.fnOf "__str__" "Rule.__str__" (defArgs s_RuleU_strU) (defBody s_RuleU_strU) (defScope s_RuleU_strU) .none kV121 dc121 pm121 an121 cd121 ct121, PySem.W.fnOf "mentioned" "mentioned" (defArgs s_mentioned) (defBody s_mentioned) (defScope s_mentioned) .none kV140 dc140 pm140 an140 cd140 ct140, PySem.W.fnOf "allows" "allows" (defArgs s_allows) (defBody s_allows) (defScope s_allows) .none kV143 dc143 pm143 an143 cd143 ct143, PySem.W.fnOf "spelled" "spelled" (defArgs s_spelled) (defBody s_spelled) (defScope s_spelled) .none kV146 dc146 pm146 an146 cd146 ct146, PySem.W.fnOf "subsets" "subsets" (defArgs s_subsets) (defBody s_subsets) (defScope s_subsets) .none kV149 dc149 pm149 an149 cd149 ct149, PySem.W.fnOf "combined" "combined" (defArgs s_combined) (defBody s_combined) (defScope s_combined) .none kV152 dc152 pm152 an152 cd152 ct152, PySem.W.fnOf "allow_the_same" "allow_the_same" (defArgs s_allow_the_same) (defBody s_allow_the_same) (defScope s_allow_the_same) .none kV155 dc155 pm155 an155 cd155 ct155, PySem.W.fnOf "_law_pool" "_law_pool" (defArgs s_law_pool) (defBody s_law_pool) (defScope s_law_pool) .none kV158 dc158 pm158 an158 cd158 ct158, PySem.W.fnOf "_law_draw" "_law_draw" (defArgs s_law_draw) (defBody s_law_draw) (defScope s_law_draw) .none kV161 dc161 pm161 an161 cd161 ct161, PySem.W.fnOf "_law_word" "_law_word" (defArgs s_law_word) (defBody s_law_word) (defScope s_law_word) .none kV164 dc164 pm164 an164 cd164 ct164, PySem.W.fnOf "_law_built" "_law_built" (defArgs s_law_built) (defBody s_law_built) (defScope s_law_built) .none kV167 dc167 pm167 an167 cd167 ct167, PySem.W.fnOf "_law_allows" "_law_allows" (defArgs s_law_allows) (defBody s_law_allows) (defScope s_law_allows) .none kV170 dc170 pm170 an170 cd170 ct170, PySem.W.fnOf "_law_subsets" "_law_subsets" (defArgs s_law_subsets) (defBody s_law_subsets) (defScope s_law_subsets) .none kV173 dc173 pm173 an173 cd173 ct173, PySem.W.fnOf "law" "law" (defArgs s_law) (defBody s_law) (defScope s_law) .none kV174 dc174 pm174 an174 cd174 ct174⟩ := ⟨F3, b3, PySem.W.mg_of X G a2, PySem.W.mg_of X G a6, ec_BadWord e9 e10 e11 e12 e13 e14 e15 e16 e17 e18 e19 e20 e21 e22 e23 z4 e24 e25 e26 e27 e28 e29, PySem.W.mg_of X G a31, ec_TooMany e34 e35 e36 e37 e38 e39 e40 e41 e42 e43 e44 e45 e46 e47 e48 z4 e49 e50 e51 e52 e53 e54, ⟨_, PySem.W.mg_of X G z55, ⟨_, rfl⟩⟩, PySem.W.mg_of X G a58, ⟨r59, s60⟩, ⟨q61, q62, q63, q64⟩, z65, F71, b71, ⟨q67, q68, q69, q70⟩, F77, b77, ⟨z74, _, r75⟩, F83, ⟨z80, _, r81⟩, F89, b89, ⟨z86, _, r87⟩, F93, b93, ⟨q91, q92, k93⟩, F97, b97, ⟨q95, q96, k97⟩, F101, b101, ⟨q99, q100, k101⟩, F105, b105, ⟨q103, q104, k105⟩, F109, b109, ⟨q107, q108, k109⟩, F113, b113, ⟨q111, q112, k113⟩, F117, b117, ⟨q115, q116, k117⟩, F121, b121, ⟨q119, q120, k121⟩, ⟨q122, q123, q124⟩, z125, ⟨q126, q127, q128, q129, q130, q131, q132, q133, q134, q135, q136, q137⟩, F140, b140, PySem.W.mg_of X G a139, F143, b143, PySem.W.mg_of X G a142, F146, b146, PySem.W.mg_of X G a145, F149, b149, PySem.W.mg_of X G a148, F152, b152, PySem.W.mg_of X G a151, F155, b155, PySem.W.mg_of X G a154, F158, b158, PySem.W.mg_of X G a157, F161, b161, PySem.W.mg_of X G a160, F164, b164, PySem.W.mg_of X G a163, F167, b167, PySem.W.mg_of X G a166, F170, b170, PySem.W.mg_of X G a169, F173, b173, PySem.W.mg_of X G a172, F174, b174, hfa, PySem.W.mg_none_of X G z175, PySem.W.mg_none_of X G z176, PySem.W.mg_none_of X G z177, PySem.W.mg_none_of X G z178, PySem.W.mg_none_of X G z179, PySem.W.mg_none_of X G z180, PySem.W.mg_none_of X G z181, PySem.W.mg_none_of X G z182, PySem.W.mg_none_of X G z183, PySem.W.mg_none_of X G z184, PySem.W.mg_none_of X G z185, PySem.W.mg_none_of X G z186⟩
  exact ⟨_, fun s v => .of_eq rfl, fun base _ _ => ok_law T⟩
theorem all_mk' {w : World} {K : PySem.W.Frag} {h : Heap} {mg : Str → Option Value} {fa f0 : Addr} (X : K.In h) (G : h.Ns mainGlobals mg) (hfa0 : mg "law" = some (.ref fa))
    {f1 : Addr}
    {od3 an3 : Option Addr} {sl3 : Array (Option Value)} {oc3 kV3 dc3 pm3 cd3 ct3 : Value}
    {C5 : Addr}
    {f7 : Addr} {nm8 qn8 : Str} {N8 : Addr} {bs8 bm8 : List Value} {sn8 : List Str} {sub8 : List Value} {ab8 : Bool} {col8 : Option Bool} {dd8 : Option Addr} {k08 k18 k28 k38 k58 : Option Value}
    {oc8 : Value} {od8 : Option Addr} {doc8 pm8 : Value} {an8 : Option Addr} {cda8 cc8 : Addr} {ct8 : Value} {osl8 : Array (Option Value)} {ccl8 : Value} {cdd8 : Option Addr} {vs8 : Array Value} {ccs8 : Array (Option Value)} {tf8 : Tok} {cl8 : Value} {cld8 : Option Addr} {csl8 : Array (Option Value)}
    {C30 : Addr}
    {f32 : Addr} {nm33 qn33 : Str} {N33 : Addr} {bs33 bm33 : List Value} {sn33 : List Str} {sub33 : List Value} {ab33 : Bool} {col33 : Option Bool} {dd33 : Option Addr} {k033 k133 k233 k333 k533 : Option Value}
    {oc33 : Value} {od33 : Option Addr} {doc33 pm33 : Value} {an33 : Option Addr} {cda33 cc33 : Addr} {ct33 : Value} {osl33 : Array (Option Value)} {ccl33 : Value} {cdd33 : Option Addr} {vs33 : Array Value} {ccs33 : Array (Option Value)} {tf33 : Tok} {cl33 : Value} {cld33 : Option Addr} {csl33 : Array (Option Value)}
    {t56 : Tok}
    {C57 : Addr}
    {f66 : Addr}
    {od71 an71 : Option Addr} {sl71 : Array (Option Value)} {oc71 kV71 dc71 pm71 cd71 ct71 : Value}
    {f72 p73 : Addr} {rs76 : List Value}
    {od77 an77 : Option Addr} {sl77 : Array (Option Value)} {oc77 kV77 dc77 pm77 cd77 ct77 : Value}
    {f78 p79 : Addr} {rs82 : List Value}
    {od83 an83 : Option Addr} {sl83 : Array (Option Value)} {oc83 kV83 dc83 pm83 cd83 ct83 : Value}
    {f84 p85 : Addr} {rs88 : List Value}
    {od89 an89 : Option Addr} {sl89 : Array (Option Value)} {oc89 kV89 dc89 pm89 cd89 ct89 : Value}
    {f90 : Addr}
    {od93 an93 : Option Addr} {sl93 : Array (Option Value)} {oc93 kV93 dc93 pm93 cd93 ct93 : Value}
    {f94 : Addr}
    {od97 an97 : Option Addr} {sl97 : Array (Option Value)} {oc97 kV97 dc97 pm97 cd97 ct97 : Value}
    {f98 : Addr}
    {od101 an101 : Option Addr} {sl101 : Array (Option Value)} {oc101 kV101 dc101 pm101 cd101 ct101 : Value}
    {f102 : Addr}
    {od105 an105 : Option Addr} {sl105 : Array (Option Value)} {oc105 kV105 dc105 pm105 cd105 ct105 : Value}
    {f106 : Addr}
    {od109 an109 : Option Addr} {sl109 : Array (Option Value)} {oc109 kV109 dc109 pm109 cd109 ct109 : Value}
    {f110 : Addr}
    {od113 an113 : Option Addr} {sl113 : Array (Option Value)} {oc113 kV113 dc113 pm113 cd113 ct113 : Value}
    {f114 : Addr}
    {od117 an117 : Option Addr} {sl117 : Array (Option Value)} {oc117 kV117 dc117 pm117 cd117 ct117 : Value}
    {f118 : Addr}
    {od121 an121 : Option Addr} {sl121 : Array (Option Value)} {oc121 kV121 dc121 pm121 cd121 ct121 : Value}
    {f138 : Addr}
    {od140 an140 : Option Addr} {sl140 : Array (Option Value)} {oc140 kV140 dc140 pm140 cd140 ct140 : Value}
    {f141 : Addr}
    {od143 an143 : Option Addr} {sl143 : Array (Option Value)} {oc143 kV143 dc143 pm143 cd143 ct143 : Value}
    {f144 : Addr}
    {od146 an146 : Option Addr} {sl146 : Array (Option Value)} {oc146 kV146 dc146 pm146 cd146 ct146 : Value}
    {f147 : Addr}
    {od149 an149 : Option Addr} {sl149 : Array (Option Value)} {oc149 kV149 dc149 pm149 cd149 ct149 : Value}
    {f150 : Addr}
    {od152 an152 : Option Addr} {sl152 : Array (Option Value)} {oc152 kV152 dc152 pm152 cd152 ct152 : Value}
    {f153 : Addr}
    {od155 an155 : Option Addr} {sl155 : Array (Option Value)} {oc155 kV155 dc155 pm155 cd155 ct155 : Value}
    {f156 : Addr}
    {od158 an158 : Option Addr} {sl158 : Array (Option Value)} {oc158 kV158 dc158 pm158 cd158 ct158 : Value}
    {f159 : Addr}
    {od161 an161 : Option Addr} {sl161 : Array (Option Value)} {oc161 kV161 dc161 pm161 cd161 ct161 : Value}
    {f162 : Addr}
    {od164 an164 : Option Addr} {sl164 : Array (Option Value)} {oc164 kV164 dc164 pm164 cd164 ct164 : Value}
    {f165 : Addr}
    {od167 an167 : Option Addr} {sl167 : Array (Option Value)} {oc167 kV167 dc167 pm167 cd167 ct167 : Value}
    {f168 : Addr}
    {od170 an170 : Option Addr} {sl170 : Array (Option Value)} {oc170 kV170 dc170 pm170 cd170 ct170 : Value}
    {f171 : Addr}
    {od173 an173 : Option Addr} {sl173 : Array (Option Value)} {oc173 kV173 dc173 pm173 cd173 ct173 : Value}
    {od174 an174 : Option Addr} {sl174 : Array (Option Value)} {oc174 kV174 dc174 pm174 cd174 ct174 : Value}
    (a0 : PySem.W.nsIn K mainGlobals "law" = some (some (.ref f0)))
    (a2 : PySem.W.nsIn K mainGlobals "is_word" = some (some (.ref f1)))
    (l3 : K.lookup f1 = some ⟨oc3, od3, .func (PySem.W.fnOf "is_word" "is_word" (defArgs s_is_word) (defBody s_is_word) (defScope s_is_word) .none kV3 dc3 pm3 an3 cd3 ct3), sl3⟩)
    (c3 : PySem.W.codeIn K cd3 "is_word" = true)
    (k3 : PySem.W.keepIn K (.ref f1) = true)
    (z4 : PySem.W.nsIn K cStatics "thirdparty.any" = some none)
    (a6 : PySem.W.nsIn K mainGlobals "BadWord" = some (some (.ref C5)))
    (e9 : K.lookup C5 = some (excClassObj nm8 qn8 C5 N8 bs8 bm8 true sn8 sub8 ab8 col8 dd8 k08 k18 k28 k38 k58 "ValueError.__new__"))
    (e10 : PySem.HandSPX.refsVE bm8 = true)
    (e11 : PySem.W.findIn K (.ref C5) "__setattr__" = some (some (.builtin "object.__setattr__")))
    (e12 : PySem.W.findIn K (.ref C5) "__getattribute__" = some (some (.builtin "BaseException.__getattribute__")))
    (e13 : PySem.W.findIn K (.ref C5) "__getattr__" = some none)
    (e14 : PySem.W.findIn K (.ref C5) "__init__" = some (some (.ref f7)))
    (e15 : PySem.W.typeIn K (.ref f7) = some (.type "function"))
    (e16 : PySem.W.keepIn K (.ref C5) = true)
    (e17 : PySem.W.subIn K (.ref C5) (.type "BaseException") = some true)
    (e18 : PySem.W.subIn K (.ref C5) (.type "ValueError") = some true)
    (e19 : PySem.W.typeIn K (.ref C5) = some (.type "type"))
    (e20 : PySem.W.hasDictIn K C5 = true)
    (e21 : PySem.W.ks_superIn K C5 C5 "__init__" = some (some (.builtin "ValueError.__init__")))
    (e22 : PySem.W.mroIn K C5 (.ref C5) = some true)
    (e23 : PySem.W.exmOne K (.ref C5) (.ref C5) = some true)
    (e24 : K.lookup f7 = some ⟨oc8, od8, .func (PySem.W.ksFn "__init__" "BadWord.__init__" (defArgs s_BadWordU_initU) (defBody s_BadWordU_initU) (defScope s_BadWordU_initU) .none .none doc8 pm8 an8 (.ref cda8) ct8 cc8), osl8⟩)
    (e25 : PySem.W.codeIn K (.ref cda8) "BadWord.__init__" = true)
    (e26 : K.lookup cda8 = some ⟨ccl8, cdd8, .fields vs8, ccs8⟩)
    (e27 : vs8[2]? = some (.str P.main.file tf8))
    (e28 : K.lookup cc8 = some ⟨cl8, cld8, .cell (some (.ref C5)), csl8⟩)
    (e29 : PySem.W.findIn K (.ref C5) "word" = some none)
    (a31 : PySem.W.nsIn K mainGlobals "TooMany" = some (some (.ref C30)))
    (e34 : K.lookup C30 = some (excClassObj nm33 qn33 C30 N33 bs33 bm33 true sn33 sub33 ab33 col33 dd33 k033 k133 k233 k333 k533 "ValueError.__new__"))
    (e35 : PySem.HandSPX.refsVE bm33 = true)
    (e36 : PySem.W.findIn K (.ref C30) "__setattr__" = some (some (.builtin "object.__setattr__")))
    (e37 : PySem.W.findIn K (.ref C30) "__getattribute__" = some (some (.builtin "BaseException.__getattribute__")))
    (e38 : PySem.W.findIn K (.ref C30) "__getattr__" = some none)
    (e39 : PySem.W.findIn K (.ref C30) "__init__" = some (some (.ref f32)))
    (e40 : PySem.W.typeIn K (.ref f32) = some (.type "function"))
    (e41 : PySem.W.keepIn K (.ref C30) = true)
    (e42 : PySem.W.subIn K (.ref C30) (.type "BaseException") = some true)
    (e43 : PySem.W.subIn K (.ref C30) (.type "ValueError") = some true)
    (e44 : PySem.W.typeIn K (.ref C30) = some (.type "type"))
    (e45 : PySem.W.hasDictIn K C30 = true)
    (e46 : PySem.W.ks_superIn K C30 C30 "__init__" = some (some (.builtin "ValueError.__init__")))
    (e47 : PySem.W.mroIn K C30 (.ref C30) = some true)
    (e48 : PySem.W.exmOne K (.ref C30) (.ref C30) = some true)
    (e49 : K.lookup f32 = some ⟨oc33, od33, .func (PySem.W.ksFn "__init__" "TooMany.__init__" (defArgs s_TooManyU_initU) (defBody s_TooManyU_initU) (defScope s_TooManyU_initU) .none .none doc33 pm33 an33 (.ref cda33) ct33 cc33), osl33⟩)
    (e50 : PySem.W.codeIn K (.ref cda33) "TooMany.__init__" = true)
    (e51 : K.lookup cda33 = some ⟨ccl33, cdd33, .fields vs33, ccs33⟩)
    (e52 : vs33[2]? = some (.str P.main.file tf33))
    (e53 : K.lookup cc33 = some ⟨cl33, cld33, .cell (some (.ref C30)), csl33⟩)
    (e54 : PySem.W.findIn K (.ref C30) "what" = some none)
    (z55 : PySem.W.nsIn K mainGlobals "MOST_RECORDS" = some (some (.int 6 t56)))
    (a58 : PySem.W.nsIn K mainGlobals "Rule" = some (some (.ref C57)))
    (r59 : PySem.W.readsIn K C57 (.type "type") = true)
    (s60 : PySem.W.specialIn K (.ref C57) "__getattribute__" = some (some (.builtin "type.__getattribute__")))
    (q61 : PySem.W.plainGet K C57 Str.empty = true)
    (q62 : PySem.W.hasDictIn K C57 = true)
    (q63 : PySem.W.plainOver K C57 = true)
    (q64 : PySem.W.findIn K (.ref C57) "__setattr__" = some (some (.builtin "object.__setattr__")))
    (z65 : PySem.W.findIn K (.ref C57) "form" = some none)
    (q67 : PySem.W.makesIn K C57 = true)
    (q68 : PySem.W.findIn K (.ref C57) "__init__" = some (some (.ref f66)))
    (q69 : PySem.W.isFn K (.ref f66) = true)
    (q70 : PySem.W.keepIn K (.ref C57) = true)
    (l71 : K.lookup f66 = some ⟨oc71, od71, .func (PySem.W.fnOf "__init__" "Rule.__init__" (defArgs s_RuleU_initU) (defBody s_RuleU_initU) (defScope s_RuleU_initU) .none kV71 dc71 pm71 an71 cd71 ct71), sl71⟩)
    (c71 : PySem.W.codeIn K cd71 "Rule.__init__" = true)
    (k71 : PySem.W.keepIn K (.ref f66) = true)
    (z74 : PySem.W.findCls K (.ref C57) (.type "type") "has" = some (.get (.builtin "staticmethod.__get__") (.ref p73) .none (.ref C57)))
    (r75 : PySem.W.recIn K p73 "staticmethod" = some (.ref f72 :: rs76))
    (l77 : K.lookup f72 = some ⟨oc77, od77, .func (PySem.W.fnOf "has" "Rule.has" (defArgs s_Rule_has) (defBody s_Rule_has) (defScope s_Rule_has) .none kV77 dc77 pm77 an77 cd77 ct77), sl77⟩)
    (c77 : PySem.W.codeIn K cd77 "Rule.has" = true)
    (k77 : PySem.W.keepIn K (.ref f72) = true)
    (z80 : PySem.W.findCls K (.ref C57) (.type "type") "together" = some (.get (.builtin "staticmethod.__get__") (.ref p79) .none (.ref C57)))
    (r81 : PySem.W.recIn K p79 "staticmethod" = some (.ref f78 :: rs82))
    (l83 : K.lookup f78 = some ⟨oc83, od83, .func (PySem.W.fnOf "together" "Rule.together" (defArgs s_Rule_together) (defBody s_Rule_together) (defScope s_Rule_together) .none kV83 dc83 pm83 an83 cd83 ct83), sl83⟩)
    (c83 : PySem.W.codeIn K cd83 "Rule.together" = true)
    (k83 : PySem.W.keepIn K (.ref f78) = true)
    (z86 : PySem.W.findCls K (.ref C57) (.type "type") "always" = some (.get (.builtin "staticmethod.__get__") (.ref p85) .none (.ref C57)))
    (r87 : PySem.W.recIn K p85 "staticmethod" = some (.ref f84 :: rs88))
    (l89 : K.lookup f84 = some ⟨oc89, od89, .func (PySem.W.fnOf "always" "Rule.always" (defArgs s_Rule_always) (defBody s_Rule_always) (defScope s_Rule_always) .none kV89 dc89 pm89 an89 cd89 ct89), sl89⟩)
    (c89 : PySem.W.codeIn K cd89 "Rule.always" = true)
    (k89 : PySem.W.keepIn K (.ref f84) = true)
    (q91 : PySem.W.findIn K (.ref C57) "records" = some (some (.ref f90)))
    (q92 : PySem.W.isFn K (.ref f90) = true)
    (l93 : K.lookup f90 = some ⟨oc93, od93, .func (PySem.W.fnOf "records" "Rule.records" (defArgs s_Rule_records) (defBody s_Rule_records) (defScope s_Rule_records) .none kV93 dc93 pm93 an93 cd93 ct93), sl93⟩)
    (c93 : PySem.W.codeIn K cd93 "Rule.records" = true)
    (k93 : PySem.W.keepIn K (.ref f90) = true)
    (q95 : PySem.W.findIn K (.ref C57) "__call__" = some (some (.ref f94)))
    (q96 : PySem.W.isFn K (.ref f94) = true)
    (l97 : K.lookup f94 = some ⟨oc97, od97, .func (PySem.W.fnOf "__call__" "Rule.__call__" (defArgs s_RuleU_callU) (defBody s_RuleU_callU) (defScope s_RuleU_callU) .none kV97 dc97 pm97 an97 cd97 ct97), sl97⟩)
    (c97 : PySem.W.codeIn K cd97 "Rule.__call__" = true)
    (k97 : PySem.W.keepIn K (.ref f94) = true)
    (q99 : PySem.W.findIn K (.ref C57) "__and__" = some (some (.ref f98)))
    (q100 : PySem.W.isFn K (.ref f98) = true)
    (l101 : K.lookup f98 = some ⟨oc101, od101, .func (PySem.W.fnOf "__and__" "Rule.__and__" (defArgs s_RuleU_andU) (defBody s_RuleU_andU) (defScope s_RuleU_andU) .none kV101 dc101 pm101 an101 cd101 ct101), sl101⟩)
    (c101 : PySem.W.codeIn K cd101 "Rule.__and__" = true)
    (k101 : PySem.W.keepIn K (.ref f98) = true)
    (q103 : PySem.W.findIn K (.ref C57) "__or__" = some (some (.ref f102)))
    (q104 : PySem.W.isFn K (.ref f102) = true)
    (l105 : K.lookup f102 = some ⟨oc105, od105, .func (PySem.W.fnOf "__or__" "Rule.__or__" (defArgs s_RuleU_orU) (defBody s_RuleU_orU) (defScope s_RuleU_orU) .none kV105 dc105 pm105 an105 cd105 ct105), sl105⟩)
    (c105 : PySem.W.codeIn K cd105 "Rule.__or__" = true)
    (k105 : PySem.W.keepIn K (.ref f102) = true)
    (q107 : PySem.W.findIn K (.ref C57) "__rshift__" = some (some (.ref f106)))
    (q108 : PySem.W.isFn K (.ref f106) = true)
    (l109 : K.lookup f106 = some ⟨oc109, od109, .func (PySem.W.fnOf "__rshift__" "Rule.__rshift__" (defArgs s_RuleU_rshiftU) (defBody s_RuleU_rshiftU) (defScope s_RuleU_rshiftU) .none kV109 dc109 pm109 an109 cd109 ct109), sl109⟩)
    (c109 : PySem.W.codeIn K cd109 "Rule.__rshift__" = true)
    (k109 : PySem.W.keepIn K (.ref f106) = true)
    (q111 : PySem.W.findIn K (.ref C57) "__invert__" = some (some (.ref f110)))
    (q112 : PySem.W.isFn K (.ref f110) = true)
    (l113 : K.lookup f110 = some ⟨oc113, od113, .func (PySem.W.fnOf "__invert__" "Rule.__invert__" (defArgs s_RuleU_invertU) (defBody s_RuleU_invertU) (defScope s_RuleU_invertU) .none kV113 dc113 pm113 an113 cd113 ct113), sl113⟩)
    (c113 : PySem.W.codeIn K cd113 "Rule.__invert__" = true)
    (k113 : PySem.W.keepIn K (.ref f110) = true)
    (q115 : PySem.W.findIn K (.ref C57) "__eq__" = some (some (.ref f114)))
    (q116 : PySem.W.isFn K (.ref f114) = true)
    (l117 : K.lookup f114 = some ⟨oc117, od117, .func (PySem.W.fnOf "__eq__" "Rule.__eq__" (defArgs s_RuleU_eqU) (defBody s_RuleU_eqU) (defScope s_RuleU_eqU) .none kV117 dc117 pm117 an117 cd117 ct117), sl117⟩)
    (c117 : PySem.W.codeIn K cd117 "Rule.__eq__" = true)
    (k117 : PySem.W.keepIn K (.ref f114) = true)
    (q119 : PySem.W.findIn K (.ref C57) "__str__" = some (some (.ref f118)))
    (q120 : PySem.W.isFn K (.ref f118) = true)
    (l121 : K.lookup f118 = some ⟨oc121, od121, .func (PySem.W.fnOf "__str__" "Rule.__str__" (defArgs s_RuleU_strU) (defBody s_RuleU_strU) (defScope s_RuleU_strU) .none kV121 dc121 pm121 an121 cd121 ct121), sl121⟩)
    (c121 : PySem.W.codeIn K cd121 "Rule.__str__" = true)
    (k121 : PySem.W.keepIn K (.ref f118) = true)
    (q122 : PySem.W.findIn K (.ref C57) "__call__" = some (some (.ref f94)))
    (q123 : PySem.W.isFn K (.ref f94) = true)
    (q124 : PySem.W.fnIn K f94 = true)
    (z125 : PySem.W.selfFirst K C57 = true)
    (q126 : PySem.W.findIn K (.ref C57) "__class__" = some (some (.builtin "object.__class__")))
    (q127 : PySem.W.specialIn K (.builtin "object.__class__") "__get__" = some (some (.builtin "getset_descriptor.__get__")))
    (q128 : PySem.W.takesIn K (.builtin "object.__class__") = some true)
    (q129 : PySem.W.mroIn K C57 (.type "object") = some true)
    (q130 : PySem.W.kitOne K (.ref C57) (.ref C57) = some true)
    (q131 : PySem.W.kitOne K (.type "tuple") (.ref C57) = some false)
    (q132 : PySem.W.kitOne K (.type "str") (.ref C57) = some false)
    (q133 : PySem.W.kitOne K (.type "NoneType") (.ref C57) = some false)
    (q134 : PySem.W.notFirst K C57 (.type "tuple") = true)
    (q135 : PySem.W.notFirst K C57 (.type "str") = true)
    (q136 : PySem.W.notFirst K C57 (.type "NoneType") = true)
    (q137 : PySem.W.findIn K (.ref C57) "__ne__" = some (some (.builtin "object.__ne__")))
    (a139 : PySem.W.nsIn K mainGlobals "mentioned" = some (some (.ref f138)))
    (l140 : K.lookup f138 = some ⟨oc140, od140, .func (PySem.W.fnOf "mentioned" "mentioned" (defArgs s_mentioned) (defBody s_mentioned) (defScope s_mentioned) .none kV140 dc140 pm140 an140 cd140 ct140), sl140⟩)
    (c140 : PySem.W.codeIn K cd140 "mentioned" = true)
    (k140 : PySem.W.keepIn K (.ref f138) = true)
    (a142 : PySem.W.nsIn K mainGlobals "allows" = some (some (.ref f141)))
    (l143 : K.lookup f141 = some ⟨oc143, od143, .func (PySem.W.fnOf "allows" "allows" (defArgs s_allows) (defBody s_allows) (defScope s_allows) .none kV143 dc143 pm143 an143 cd143 ct143), sl143⟩)
    (c143 : PySem.W.codeIn K cd143 "allows" = true)
    (k143 : PySem.W.keepIn K (.ref f141) = true)
    (a145 : PySem.W.nsIn K mainGlobals "spelled" = some (some (.ref f144)))
    (l146 : K.lookup f144 = some ⟨oc146, od146, .func (PySem.W.fnOf "spelled" "spelled" (defArgs s_spelled) (defBody s_spelled) (defScope s_spelled) .none kV146 dc146 pm146 an146 cd146 ct146), sl146⟩)
    (c146 : PySem.W.codeIn K cd146 "spelled" = true)
    (k146 : PySem.W.keepIn K (.ref f144) = true)
    (a148 : PySem.W.nsIn K mainGlobals "subsets" = some (some (.ref f147)))
    (l149 : K.lookup f147 = some ⟨oc149, od149, .func (PySem.W.fnOf "subsets" "subsets" (defArgs s_subsets) (defBody s_subsets) (defScope s_subsets) .none kV149 dc149 pm149 an149 cd149 ct149), sl149⟩)
    (c149 : PySem.W.codeIn K cd149 "subsets" = true)
    (k149 : PySem.W.keepIn K (.ref f147) = true)
    (a151 : PySem.W.nsIn K mainGlobals "combined" = some (some (.ref f150)))
    (l152 : K.lookup f150 = some ⟨oc152, od152, .func (PySem.W.fnOf "combined" "combined" (defArgs s_combined) (defBody s_combined) (defScope s_combined) .none kV152 dc152 pm152 an152 cd152 ct152), sl152⟩)
    (c152 : PySem.W.codeIn K cd152 "combined" = true)
    (k152 : PySem.W.keepIn K (.ref f150) = true)
    (a154 : PySem.W.nsIn K mainGlobals "allow_the_same" = some (some (.ref f153)))
    (l155 : K.lookup f153 = some ⟨oc155, od155, .func (PySem.W.fnOf "allow_the_same" "allow_the_same" (defArgs s_allow_the_same) (defBody s_allow_the_same) (defScope s_allow_the_same) .none kV155 dc155 pm155 an155 cd155 ct155), sl155⟩)
    (c155 : PySem.W.codeIn K cd155 "allow_the_same" = true)
    (k155 : PySem.W.keepIn K (.ref f153) = true)
    (a157 : PySem.W.nsIn K mainGlobals "_law_pool" = some (some (.ref f156)))
    (l158 : K.lookup f156 = some ⟨oc158, od158, .func (PySem.W.fnOf "_law_pool" "_law_pool" (defArgs s_law_pool) (defBody s_law_pool) (defScope s_law_pool) .none kV158 dc158 pm158 an158 cd158 ct158), sl158⟩)
    (c158 : PySem.W.codeIn K cd158 "_law_pool" = true)
    (k158 : PySem.W.keepIn K (.ref f156) = true)
    (a160 : PySem.W.nsIn K mainGlobals "_law_draw" = some (some (.ref f159)))
    (l161 : K.lookup f159 = some ⟨oc161, od161, .func (PySem.W.fnOf "_law_draw" "_law_draw" (defArgs s_law_draw) (defBody s_law_draw) (defScope s_law_draw) .none kV161 dc161 pm161 an161 cd161 ct161), sl161⟩)
    (c161 : PySem.W.codeIn K cd161 "_law_draw" = true)
    (k161 : PySem.W.keepIn K (.ref f159) = true)
    (a163 : PySem.W.nsIn K mainGlobals "_law_word" = some (some (.ref f162)))
    (l164 : K.lookup f162 = some ⟨oc164, od164, .func (PySem.W.fnOf "_law_word" "_law_word" (defArgs s_law_word) (defBody s_law_word) (defScope s_law_word) .none kV164 dc164 pm164 an164 cd164 ct164), sl164⟩)
    (c164 : PySem.W.codeIn K cd164 "_law_word" = true)
    (k164 : PySem.W.keepIn K (.ref f162) = true)
    (a166 : PySem.W.nsIn K mainGlobals "_law_built" = some (some (.ref f165)))
    (l167 : K.lookup f165 = some ⟨oc167, od167, .func (PySem.W.fnOf "_law_built" "_law_built" (defArgs s_law_built) (defBody s_law_built) (defScope s_law_built) .none kV167 dc167 pm167 an167 cd167 ct167), sl167⟩)
    (c167 : PySem.W.codeIn K cd167 "_law_built" = true)
    (k167 : PySem.W.keepIn K (.ref f165) = true)
    (a169 : PySem.W.nsIn K mainGlobals "_law_allows" = some (some (.ref f168)))
    (l170 : K.lookup f168 = some ⟨oc170, od170, .func (PySem.W.fnOf "_law_allows" "_law_allows" (defArgs s_law_allows) (defBody s_law_allows) (defScope s_law_allows) .none kV170 dc170 pm170 an170 cd170 ct170), sl170⟩)
    (c170 : PySem.W.codeIn K cd170 "_law_allows" = true)
    (k170 : PySem.W.keepIn K (.ref f168) = true)
    (a172 : PySem.W.nsIn K mainGlobals "_law_subsets" = some (some (.ref f171)))
    (l173 : K.lookup f171 = some ⟨oc173, od173, .func (PySem.W.fnOf "_law_subsets" "_law_subsets" (defArgs s_law_subsets) (defBody s_law_subsets) (defScope s_law_subsets) .none kV173 dc173 pm173 an173 cd173 ct173), sl173⟩)
    (c173 : PySem.W.codeIn K cd173 "_law_subsets" = true)
    (k173 : PySem.W.keepIn K (.ref f171) = true)
    (l174 : K.lookup f0 = some ⟨oc174, od174, .func (PySem.W.fnOf "law" "law" (defArgs s_law) (defBody s_law) (defScope s_law) .none kV174 dc174 pm174 an174 cd174 ct174), sl174⟩)
    (c174 : PySem.W.codeIn K cd174 "law" = true)
    (k174 : PySem.W.keepIn K (.ref f0) = true)
    (z175 : PySem.W.nsIn K mainGlobals "len" = some none)
    (z176 : PySem.W.nsIn K mainGlobals "isinstance" = some none)
    (z177 : PySem.W.nsIn K mainGlobals "str" = some none)
    (z178 : PySem.W.nsIn K mainGlobals "super" = some none)
    (z179 : PySem.W.nsIn K mainGlobals "sorted" = some none)
    (z180 : PySem.W.nsIn K mainGlobals "set" = some none)
    (z181 : PySem.W.nsIn K mainGlobals "all" = some none)
    (z182 : PySem.W.nsIn K mainGlobals "abs" = some none)
    (z183 : PySem.W.nsIn K mainGlobals "int" = some none)
    (z184 : PySem.W.nsIn K mainGlobals "range" = some none)
    (z185 : PySem.W.nsIn K mainGlobals "max" = some none)
    (z186 : PySem.W.nsIn K mainGlobals "min" = some none)
    : ∃ fd : FuncData, (∀ (s : Shared) (v : Value), BindsTo s fd ⟨[v], []⟩ [("_law_script", v)]) ∧ ∀ base : Heap, K.In base → base.Ns mainGlobals mg → FnOk P w K mg base CX0 22 fa fd ["_law_script"] (spLaw K) := by
  have e := hfa0.symm.trans (PySem.W.mg_of X G a0)
  cases e
  exact all_mk X G hfa0 a2 l3 c3 k3 z4 a6 e9 e10 e11 e12 e13 e14 e15 e16 e17 e18 e19 e20 e21 e22 e23 e24 e25 e26 e27 e28 e29 a31 e34 e35 e36 e37 e38 e39 e40 e41 e42 e43 e44 e45 e46 e47 e48 e49 e50 e51 e52 e53 e54 z55 a58 r59 s60 q61 q62 q63 q64 z65 q67 q68 q69 q70 l71 c71 k71 z74 r75 l77 c77 k77 z80 r81 l83 c83 k83 z86 r87 l89 c89 k89 q91 q92 l93 c93 k93 q95 q96 l97 c97 k97 q99 q100 l101 c101 k101 q103 q104 l105 c105 k105 q107 q108 l109 c109 k109 q111 q112 l113 c113 k113 q115 q116 l117 c117 k117 q119 q120 l121 c121 k121 q122 q123 q124 z125 q126 q127 q128 q129 q130 q131 q132 q133 q134 q135 q136 q137 a139 l140 c140 k140 a142 l143 c143 k143 a145 l146 c146 k146 a148 l149 c149 k149 a151 l152 c152 k152 a154 l155 c155 k155 a157 l158 c158 k158 a160 l161 c161 k161 a163 l164 c164 k164 a166 l167 c167 k167 a169 l170 c170 k170 a172 l173 c173 k173 l174 c174 k174 z175 z176 z177 z178 z179 z180 z181 z182 z183 z184 z185 z186
end Ic
open PySem PySem.W PyProof.Rows
set_option maxRecDepth 100000 in
set_option maxHeartbeats 0 in
theorem PySem.Challenge.cw_innercommits_k16_rules_that_are_equal_holds : PySem.Challenge.rw_innercommits_k16_rules_that_are_equal.Holds := by
  w_on; o_law; k_head; (case hw => w_witness2)
  k_fill
  refine L2.walk_ofB (l := PySem.Challenge.rw_innercommits_k16_rules_that_are_equal) (n := 63) (k := 22) (x := "_law_script") (CX := fun _ => L2.CX0) (sp := fun w => Ic.spLaw _) rfl (by decide) rfl ⟨rfl, by decide, by decide⟩ (fun w h Y => PySem.W.kIn_of Y) ?F (fun _ _ a ns hl _ _ hS => ⟨a, ns, rfl, hS, hl, fun _ => rfl⟩) (fun _ _ _ _ _ h => h)
  case F =>
    intro w mg fa h KX G hmg
    refine' Ic.all_mk' KX G hmg ?a0 ?a2 ?l3 ?c3 ?k3 ?z4 ?a6 ?e9 ?e10 ?e11 ?e12 ?e13 ?e14 ?e15 ?e16 ?e17 ?e18 ?e19 ?e20 ?e21 ?e22 ?e23 ?e24 ?e25 ?e26 ?e27 ?e28 ?e29 ?a31 ?e34 ?e35 ?e36 ?e37 ?e38 ?e39 ?e40 ?e41 ?e42 ?e43 ?e44 ?e45 ?e46 ?e47 ?e48 ?e49 ?e50 ?e51 ?e52 ?e53 ?e54 ?z55 ?a58 ?r59 ?s60 ?q61 ?q62 ?q63 ?q64 ?z65 ?q67 ?q68 ?q69 ?q70 ?l71 ?c71 ?k71 ?z74 ?r75 ?l77 ?c77 ?k77 ?z80 ?r81 ?l83 ?c83 ?k83 ?z86 ?r87 ?l89 ?c89 ?k89 ?q91 ?q92 ?l93 ?c93 ?k93 ?q95 ?q96 ?l97 ?c97 ?k97 ?q99 ?q100 ?l101 ?c101 ?k101 ?q103 ?q104 ?l105 ?c105 ?k105 ?q107 ?q108 ?l109 ?c109 ?k109 ?q111 ?q112 ?l113 ?c113 ?k113 ?q115 ?q116 ?l117 ?c117 ?k117 ?q119 ?q120 ?l121 ?c121 ?k121 ?q122 ?q123 ?q124 ?z125 ?q126 ?q127 ?q128 ?q129 ?q130 ?q131 ?q132 ?q133 ?q134 ?q135 ?q136 ?q137 ?a139 ?l140 ?c140 ?k140 ?a142 ?l143 ?c143 ?k143 ?a145 ?l146 ?c146 ?k146 ?a148 ?l149 ?c149 ?k149 ?a151 ?l152 ?c152 ?k152 ?a154 ?l155 ?c155 ?k155 ?a157 ?l158 ?c158 ?k158 ?a160 ?l161 ?c161 ?k161 ?a163 ?l164 ?c164 ?k164 ?a166 ?l167 ?c167 ?k167 ?a169 ?l170 ?c170 ?k170 ?a172 ?l173 ?c173 ?k173 ?l174 ?c174 ?k174 ?z175 ?z176 ?z177 ?z178 ?z179 ?z180 ?z181 ?z182 ?z183 ?z184 ?z185 ?z186
    (case a0 => k_is)
    (case a2 => k_is)
    (case l3 => k_is)
    (case c3 => k_is)
    (case k3 => k_is)
    (case z4 => k_is)
    (case a6 => k_is)
    (case e9 => k_is)
    (case e10 => kernel_rfl)
    (case e11 => k_is)
    (case e12 => k_is)
    (case e13 => k_is)
    (case e14 => k_is)
    (case e15 => k_is)
    (case e16 => k_is)
    (case e17 => k_is)
    (case e18 => k_is)
    (case e19 => k_is)
    (case e20 => k_is)
    (case e21 => kernel_rfl)
    (case e22 => k_is)
    (case e23 => kernel_rfl)
    (case e24 => k_is)
    (case e25 => k_is)
    (case e26 => k_is)
    (case e27 => exact rfl)
    (case e28 => k_is)
    (case e29 => k_is)
    (case a31 => k_is)
    (case e34 => k_is)
    (case e35 => kernel_rfl)
    (case e36 => k_is)
    (case e37 => k_is)
    (case e38 => k_is)
    (case e39 => k_is)
    (case e40 => k_is)
    (case e41 => k_is)
    (case e42 => k_is)
    (case e43 => k_is)
    (case e44 => k_is)
    (case e45 => k_is)
    (case e46 => kernel_rfl)
    (case e47 => k_is)
    (case e48 => kernel_rfl)
    (case e49 => k_is)
    (case e50 => k_is)
    (case e51 => k_is)
    (case e52 => exact rfl)
    (case e53 => k_is)
    (case e54 => k_is)
    (case z55 => k_is)
    (case a58 => k_is)
    (case r59 => k_is)
    (case s60 => k_is)
    (case q61 => k_is)
    (case q62 => k_is)
    (case q63 => k_is)
    (case q64 => k_is)
    (case z65 => k_is)
    (case q67 => k_is)
    (case q68 => k_is)
    (case q69 => k_is)
    (case q70 => k_is)
    (case l71 => k_is)
    (case c71 => k_is)
    (case k71 => k_is)
    (case z74 => k_is)
    (case r75 => k_is)
    (case l77 => k_is)
    (case c77 => k_is)
    (case k77 => k_is)
    (case z80 => k_is)
    (case r81 => k_is)
    (case l83 => k_is)
    (case c83 => k_is)
    (case k83 => k_is)
    (case z86 => k_is)
    (case r87 => k_is)
    (case l89 => k_is)
    (case c89 => k_is)
    (case k89 => k_is)
    (case q91 => k_is)
    (case q92 => k_is)
    (case l93 => k_is)
    (case c93 => k_is)
    (case k93 => k_is)
    (case q95 => k_is)
    (case q96 => k_is)
    (case l97 => k_is)
    (case c97 => k_is)
    (case k97 => k_is)
    (case q99 => k_is)
    (case q100 => k_is)
    (case l101 => k_is)
    (case c101 => k_is)
    (case k101 => k_is)
    (case q103 => k_is)
    (case q104 => k_is)
    (case l105 => k_is)
    (case c105 => k_is)
    (case k105 => k_is)
    (case q107 => k_is)
    (case q108 => k_is)
    (case l109 => k_is)
    (case c109 => k_is)
    (case k109 => k_is)
    (case q111 => k_is)
    (case q112 => k_is)
    (case l113 => k_is)
    (case c113 => k_is)
    (case k113 => k_is)
    (case q115 => k_is)
    (case q116 => k_is)
    (case l117 => k_is)
    (case c117 => k_is)
    (case k117 => k_is)
    (case q119 => k_is)
    (case q120 => k_is)
    (case l121 => k_is)
    (case c121 => k_is)
    (case k121 => k_is)
    (case q122 => k_is)
    (case q123 => k_is)
    (case q124 => k_is)
    (case z125 => k_is)
    (case q126 => k_is)
    (case q127 => k_is)
    (case q128 => k_is)
    (case q129 => k_is)
    (case q130 => (first | k_is | kernel_rfl))
    (case q131 => (first | k_is | kernel_rfl))
    (case q132 => (first | k_is | kernel_rfl))
    (case q133 => (first | k_is | kernel_rfl))
    (case q134 => k_is)
    (case q135 => k_is)
    (case q136 => k_is)
    (case q137 => k_is)
    (case a139 => k_is)
    (case l140 => k_is)
    (case c140 => k_is)
    (case k140 => k_is)
    (case a142 => k_is)
    (case l143 => k_is)
    (case c143 => k_is)
    (case k143 => k_is)
    (case a145 => k_is)
    (case l146 => k_is)
    (case c146 => k_is)
    (case k146 => k_is)
    (case a148 => k_is)
    (case l149 => k_is)
    (case c149 => k_is)
    (case k149 => k_is)
    (case a151 => k_is)
    (case l152 => k_is)
    (case c152 => k_is)
    (case k152 => k_is)
    (case a154 => k_is)
    (case l155 => k_is)
    (case c155 => k_is)
    (case k155 => k_is)
    (case a157 => k_is)
    (case l158 => k_is)
    (case c158 => k_is)
    (case k158 => k_is)
    (case a160 => k_is)
    (case l161 => k_is)
    (case c161 => k_is)
    (case k161 => k_is)
    (case a163 => k_is)
    (case l164 => k_is)
    (case c164 => k_is)
    (case k164 => k_is)
    (case a166 => k_is)
    (case l167 => k_is)
    (case c167 => k_is)
    (case k167 => k_is)
    (case a169 => k_is)
    (case l170 => k_is)
    (case c170 => k_is)
    (case k170 => k_is)
    (case a172 => k_is)
    (case l173 => k_is)
    (case c173 => k_is)
    (case k173 => k_is)
    (case l174 => k_is)
    (case c174 => k_is)
    (case k174 => k_is)
    (case z175 => k_is)
    (case z176 => k_is)
    (case z177 => k_is)
    (case z178 => k_is)
    (case z179 => k_is)
    (case z180 => k_is)
    (case z181 => k_is)
    (case z182 => k_is)
    (case z183 => k_is)
    (case z184 => k_is)
    (case z185 => k_is)
    (case z186 => k_is)
#print axioms PySem.Challenge.cw_innercommits_k16_rules_that_are_equal_holds
