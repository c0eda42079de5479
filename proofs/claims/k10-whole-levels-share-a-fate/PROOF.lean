import PyProof.Rows.All
import Wide.All
import OpenK.AllK
import Wide.FinOn
import HandS.ForMost
import HandS.EndBits
import HandS.Wide
import HandS.IsInst
import HandS.Style
import HandS.Walk
import HandS.ClsMeth
import HandS.Conv
import HandS.ForExc
import HandS.ExcInit
import HandS.CallSlots
import HandS.Defaults
import HandS.ExcField
import HandS.Property
import HandS.WordsExc
import HandS.TryMany
import KE.KExcSuper
import HandS.HotCalls
import HandS.Dict
import HandS.Set
import HandS.SetBool
import HandS.SetFor
import HandS.Strs
import HandS.More
import PyProof.Rows.SortShellAny
import PyProof.Rows.SetFrom
import PyProof.Rows.SetObj
import HandS.TryOnly
import HandS.GenList
import HandS.GenYield
import HandS.GenCall
import PySem.Challenge.RW_innercommits_k10_whole_levels_share_a_fa

set_option Elab.async false
set_option linter.all false
set_option maxRecDepth 100000
set_option maxHeartbeats 4000000
namespace Ic
open PySem L2
def top (i : Nat) : Stmt := PySem.Challenge.pw_innercommits_k10_whole_levels_share_a_fa.main.body.getD i (.Pass ⟨0, 0, 0, 0⟩)
abbrev P : Program := PySem.Challenge.pw_innercommits_k10_whole_levels_share_a_fa
/-! ### heaps -/
theorem sz_le {n m : Nat} (h : Nat.ble n m = true) : n ≤ m := Nat.le_of_ble_eq_true h
theorem sz_lt {n m : Nat} (h : Nat.blt n m = true) : n < m := Nat.le_of_ble_eq_true h
theorem upd_old {H : Hp} {p a : Addr} {o u : HO} (h : H a = some u) (hp : H p = none) : upd H p o a = some u := by
  rw [upd_ne (ne_of_none h hp)]; exact h
theorem upd_oth {H : Hp} {p a : Addr} {o u : HO} (hn : a ≠ p) (h : H a = some u) : upd H p o a = some u := by
  rw [upd_ne hn]; exact h
theorem cmul_l {i j : Int} (h : (decide (-(2 ^ 64) < i) && decide (i < 2 ^ 64)) = true) : CMul i j := by
  simp only [Bool.and_eq_true, decide_eq_true_eq] at h
  exact .inl h
theorem cmul_r {i j : Int} (h : (decide (-(2 ^ 64) < j) && decide (j < 2 ^ 64)) = true) : CMul i j := by
  simp only [Bool.and_eq_true, decide_eq_true_eq] at h
  exact .inr h
theorem cpow_lit {i j : Int} (h : (decide (0 ≤ j) && decide (j ≤ 1000000) && decide (i.natAbs < 2 ^ 64)) = true) : CPow i j := by
  simp only [Bool.and_eq_true, decide_eq_true_eq] at h
  exact ⟨h.1.1, h.1.2, h.2⟩
theorem cdiv_lit {i j : Int} (h : (decide (0 < j) && decide (j < 1073741824)) = true) : CDivW i j := by
  simp only [Bool.and_eq_true, decide_eq_true_eq] at h
  exact wide_div (b := 40) h.1 (by omega) (by decide) (by decide)
theorem none_upd {H : Hp} {p b : Addr} {o : HO} (h : upd H p o b = none) : b ≠ p ∧ H b = none := by
  by_cases e : b = p
  · rw [e, upd_same] at h; cases h
  · exact ⟨e, by rw [upd_ne e] at h; exact h⟩
/-- all that was tracked, but S, is as it was -/
def Kp (S : Addr → Prop) (H H' : Hp) : Prop := ∀ b u, H b = some u → ¬ S b → H' b = some u
theorem Kp.refl {S : Addr → Prop} {H : Hp} : Kp S H H := fun _ _ h _ => h
theorem Kp.trans {S : Addr → Prop} {H H1 H2 : Hp} (a : Kp S H H1) (b : Kp S H1 H2) : Kp S H H2 := fun c u h n => b c u (a c u h n) n
theorem Kp.new {S : Addr → Prop} {H H1 : Hp} {p : Addr} {o : HO} (a : Kp S H H1) (h : H1 p = none) : Kp S H (upd H1 p o) := fun c u e n => upd_old (a c u e n) h
theorem Kp.set {S : Addr → Prop} {H H1 : Hp} {p : Addr} {o : HO} (a : Kp S H H1) (h : S p) : Kp S H (upd H1 p o) := fun c u e n => upd_oth (fun z => n (z ▸ h)) (a c u e n)
theorem Kp.set1 {H H1 : Hp} {p : Addr} {o : HO} (a : Kp (fun b => b = p) H H1) : Kp (fun b => b = p) H (upd H1 p o) := a.set rfl
/-- p is none of H's -/
theorem Kp.fresh {S : Addr → Prop} {H H1 : Hp} {p : Addr} {o : HO} (a : Kp S H H1) (h : H p = none) : Kp S H (upd H1 p o) := fun c u e n => upd_oth (ne_of_none e h) (a c u e n)
theorem Kp.mono {S S' : Addr → Prop} {H H1 : Hp} (a : Kp S H H1) (h : ∀ b, S b → S' b) : Kp S' H H1 := fun c u e n => a c u e fun z => n (h c z)
theorem Kp.same {S : Addr → Prop} {H H1 H2 : Hp} (a : Same H H1) (b : Kp S H1 H2) (n : ∀ c, S c → H c = none) : Same H H2 := fun c u h => b c u (a c u h) fun z => by
  rw [n c z] at h; cases h
theorem Kp.of_same {S : Addr → Prop} {H H1 : Hp} (a : Same H H1) : Kp S H H1 := fun c u h _ => a c u h
theorem _root_.L2.Same.new {H H1 : Hp} {p : Addr} {o : HO} (a : Same H H1) (h : H1 p = none) : Same H (upd H1 p o) := fun c u e => upd_old (a c u e) h
theorem _root_.L2.Same.frsh {H H1 : Hp} {p : Addr} {o : HO} (a : Same H H1) (h : H p = none) : Same H (upd H1 p o) := fun c u e => upd_oth (ne_of_none e h) (a c u e)
theorem tyV_lst {K : PySem.W.Frag} {H : Hp} {p : Addr} {xs : List V} (h : SqL K H p xs) : tyV K "list" (.ref p) H := .inl ⟨rfl, xs, h⟩
class RdTy (α : Type) : Prop
instance : RdTy V := ⟨⟩
instance : RdTy Int := ⟨⟩
instance : RdTy Nat := ⟨⟩
instance : RdTy Bool := ⟨⟩
instance : RdTy Str := ⟨⟩
instance : RdTy HO := ⟨⟩
instance : RdTy Value := ⟨⟩
instance : RdTy Obj := ⟨⟩
instance {α : Type} : RdTy (List α) := ⟨⟩
instance {α : Type} : RdTy (Array α) := ⟨⟩
instance {α β : Type} : RdTy (Sum α β) := ⟨⟩
theorem exI {α : Type} [RdTy α] {p : α → Prop} (w : α) (h : p w) : Exists p := ⟨w, h⟩
/-! ### the pool -/
def PoolO (o : HO) (c : Nat) : Prop := ∃ a b n : Int, o = .lst [.int a, .int b, .int n] ∧ 0 ≤ a ∧ 0 ≤ b ∧ b < 2 ^ 62 ∧ 0 ≤ n ∧ n ≤ c
def PoolAt (H : Hp) (p : Addr) (c : Nat) : Prop := ∃ o, H p = some o ∧ PoolO o c
theorem PoolO.mono {o : HO} {c d : Nat} (h : PoolO o c) (l : c ≤ d) : PoolO o d := by
  obtain ⟨a, b, n, e, h1, h2, h3, h4, h5⟩ := h
  exact ⟨a, b, n, e, h1, h2, h3, h4, by omega⟩
def spPool (K : PySem.W.Frag) : Sp := fun vs H Q _ => ∃ (a : Addr) (ns : List Int) (i : Nat), vs = [.ref a, .int (i : Int)] ∧ SqL K H a (ns.map V.int) ∧ i < 1000 ∧
  ∀ p o, H p = none → PoolO o 0 → Q (.ref p) (upd H p o)
def spDraw : Sp := fun vs H Q _ => ∃ (p : Addr) (m : Int) (c : Nat) (o : HO), vs = [.ref p, .int m] ∧ H p = some o ∧ PoolO o c ∧ 0 < m ∧ m < 2 ^ 200 ∧ c < 2 ^ 40 ∧
  ∀ r o', 0 ≤ r → r < m → PoolO o' (c + 1) → Q (.int r) (upd H p o')
local macro_rules | `(tactic| walk_at "hp") => `(tactic| first | with_reducible assumption | with_reducible exact upd_same | (with_reducible apply upd_old; (focus (walk_at "hp")); (focus with_reducible assumption)) | (with_reducible apply upd_oth; (focus (first | with_reducible assumption | (with_reducible apply Ne.symm; with_reducible assumption))); walk_at "hp"))
local macro_rules | `(tactic| walk_at "sq") => `(tactic| first | with_reducible assumption | (with_reducible apply SqL.of; walk_at "hp") | (with_reducible apply SqT.of; walk_at "hp"))
local macro_rules | `(tactic| walk_at "side") => `(tactic| first | with_reducible assumption | exact ⟨_, rfl⟩ | walk_at "hp" | walk_at "sq" | (with_reducible apply tyV_lst; walk_at "sq") | (with_reducible apply Or.inl; walk_at "sq") | (with_reducible apply Or.inr; walk_at "sq") | with_reducible exact cmul_l (by decide) | with_reducible exact cmul_r (by decide) | with_reducible exact cpow_lit (by decide) | with_reducible exact cdiv_lit (by decide) | decide | exact sz_le rfl | exact sz_lt rfl | omega)
local macro_rules | `(tactic| walk_at "kp") => `(tactic| first | with_reducible assumption | with_reducible exact Kp.refl | (with_reducible apply Kp.set1; walk_at "kp") | (with_reducible apply Kp.new; (focus (walk_at "kp")); (focus with_reducible assumption)) | (with_reducible apply Kp.fresh; (focus (walk_at "kp")); (focus with_reducible assumption)))
local macro_rules | `(tactic| walk_at "rd1") => `(tactic| first
  | refine And.intro rfl ?_
  | apply exI
  | (refine Or.inl ?_; apply exI; refine And.intro rfl ?_)
  | (refine Or.inr ?_; apply exI; refine And.intro rfl ?_)
  | (refine And.intro ?_ ?_; (focus (walk_at "side"))))
local macro_rules | `(tactic| walk_at "rd") => `(tactic| repeat (walk_at "rd1"))
/-! ### further rules: a staticmethod called off its class, list of a text -/
/-- C.m is a staticmethod: its record at p, its def at f -/
structure SMet (K : PySem.W.Frag) (C : Addr) (mc : Value) (m : Str) (p f : Addr) : Prop where
  at_ : PySem.W.findCls K (.ref C) mc m = some (.get (.builtin "staticmethod.__get__") (.ref p) .none (.ref C))
  rc : ∃ rest, PySem.W.recIn K p "staticmethod" = some (.ref f :: rest)
def tSMeth (C : Addr) (sp : Sp) (dvs : List V) (E : XK) (ta : TE) (t : TA) : TE := fun σ H Q => ta σ H fun x H1 => x = .ref C ∧ t σ H1 fun vs H2 => sp (vs ++ dvs) H2 Q E
theorem pe_smeth {X : Cx} {CX : CXT} {k : Nat} {C p f : Addr} {fd : FuncData} {ps : List Str} {ds : List Value} {dvs : List V} {mc : Value} {sp : Sp} {E : XK} {o e : Expr} {es : List Expr} {m : Str} {pos apos : Pos} {ta : TE} {t : TA} {pl : Sem Bool}
    (he : PE X o ta) (r : ClX.CRead X.K C mc) (c : SMet X.K C mc m p f) (F : FnOk X.prog X.w X.K X.mg X.base CX k f fd ps sp) (hr : Room k X.A) (hk : PySem.W.keepIn X.K (.ref f) = true) (hb : Binds X.K fd ps ds) (hd : Vals dvs ds) (hx : Passes CX X E) (ha : PA X (e :: es) t)
    (hst : starEach (e :: es) X.env = (false, eval e X.env) :: starEach es X.env := by rfl) (hpl : (backTo pos (starEach es X.env)).any (·.1) = false := by rfl)
    (ht : eval (.Call (.Attribute o m apos) (e :: es) [] pos) X.env = (do
      let ov ← eval o X.env
      standAt apos.atName
      let (f, first) ← holding [ov] (getMethod ov m pl)
      callWith pos f first (backTo pos (starEach (e :: es) X.env)) (backToKw pos (keywordEach [] X.env))) := by rfl) :
    PE X (.Call (.Attribute o m apos) (e :: es) [] pos) (tSMeth C sp dvs E ta t) := by
  refine ⟨fun pins s σ H Q I h => ?_⟩
  refine PySem.W.methodCall_KW (pl := pl) (thn (he.run pins s σ H _ I h) fun u s1 ⟨x, H1, I1, rx, ex, q⟩ => ?_) ht
  subst ex
  obtain rfl : u = Value.ref C := rx
  obtain ⟨rest, hp⟩ := c.rc
  refine PySem.W.method_cls I1.kIn r.ga (PySem.W.cls_bind I1.kIn r.rd c.at_ ?_)
  refine wpAny_call (PySem.W.sm_get (s := { s1 with toks := s1.toks + 1 }) I1.kIn hp (PySem.W.handed_on rfl ?_))
  have I2 := I1.tok (s1.toks + 1)
  refine PySem.W.callWith_K (h₀ := X.base) (first := []) I2.ok.mod.kin hk (thn (ha.run pos pins _ σ H1 _ I2 q) fun us s3 ⟨vs, H2, I3, rv, q2⟩ => ⟨I3.kIn, ?_⟩) hst hpl
  exact run_fn F hr hb hd hx I3 rv q2
theorem call_list_text {X : Cx} (hc : X.calm = true) : CallR X (.type "list") (fun xs H Q => ∃ z : Str, xs = [.str z] ∧ z.length ≤ sizeLine ∧ ∀ l, H l = none → Q (.ref l) (upd H l (.lst (z.cps.toList.map fun c => .str ⟨#[c]⟩)))) := by
  intro pins s σ H xs us Q I r h
  obtain ⟨z, rfl, hz, q⟩ := h
  obtain ⟨u, rfl, t, rfl⟩ := vals1 r
  refine call_list_str (I.ok.hd hc) z t (fun h' tk acc c' kp e it => ?_) hz
  have hv : Vals (z.cps.toList.map fun c => V.str ⟨#[c]⟩) acc.toList := by
    refine vals_of_at (by rw [List.length_map, Array.length_toList, Array.length_toList, it.1]) fun j x u e1 e2 => ?_
    rw [Array.getElem?_toList] at e2
    obtain ⟨c, tk, hc1, rfl⟩ := it.2 j u e2
    rw [List.getElem?_map, Array.getElem?_toList, hc1] at e1
    cases e1
    exact ⟨tk, rfl⟩
  refine ⟨.ref s.heap.objs.size, _, I.laid (o := .lst (z.cps.toList.map fun c => V.str ⟨#[c]⟩)) (t' := tk) kp (Nat.le_refl _) ?_, rfl, q _ (I.hok.fresh (Nat.le_refl _))⟩
  exact ⟨by rw [List.length_map, Array.length_toList]; exact hz, acc.toList, c', hv, by simpa using e⟩
/-! ### data: == of lists and tuples -/
theorem eqvAll_nil {ds : List PyData} : PyData.eqvAll ds [] = ds.isEmpty := by
  cases ds <;> rfl
def asc (z : Str) : Prop := ∀ c ∈ z.cps.toList, c < 128
theorem asc_ok {z : Str} (h : asc z) : PyData.strOk z = true := by
  unfold PyData.strOk
  rw [Array.all_eq_true]
  intro i hi
  have := h z.cps[i] (by rw [Array.mem_toList_iff]; exact Array.getElem_mem hi)
  simp; omega
theorem dp_strs {K : PySem.W.Frag} {H : Hp} : ∀ ys : List Str, DpAll K H (ys.map V.str) (ys.map PyData.str)
  | [] => .nil
  | y :: r => .cons (.str y) (dp_strs r)
theorem lay_strs : ∀ {ys : List Str}, (∀ y ∈ ys, asc y) → PyData.canLayAll0 (ys.map PyData.str) = true
  | [], _ => rfl
  | y :: r, h => by
    show (PyData.strOk y && PyData.canLayAll0 (r.map PyData.str)) = true
    rw [asc_ok (h y List.mem_cons_self), lay_strs fun z hz => h z (List.mem_cons_of_mem _ hz)]; rfl
theorem depth_strs : ∀ ys : List Str, PyData.depthAll (ys.map PyData.str) = 0
  | [] => rfl
  | y :: r => by
    show max 0 (PyData.depthAll (r.map PyData.str)) = 0
    rw [depth_strs r]; rfl
theorem shaped_strs {ys : List Str} (h : ∀ y ∈ ys, asc y) : SeqAt.shaped (.list (ys.map PyData.str)) = true := by
  show (PyData.canLayAll0 (ys.map PyData.str) && decide (PyData.depthAll (ys.map PyData.str) + 1 ≤ 64)) = true
  rw [lay_strs h, depth_strs]; rfl
/-! ### letters -/
def Lets (cs : List Nat) : Prop := ∀ c ∈ cs, 97 ≤ c ∧ c ≤ 122
def chr1 (c : Nat) : Str := ⟨#[c]⟩
structure IsWord (w : Str) : Prop where
  lo : 1 ≤ w.cps.toList.length
  hi : w.cps.toList.length ≤ 8
  al : Lets w.cps.toList
def alpha : Str := "abcdefghijklmnopqrstuvwxyz"
theorem alpha_all : ∀ n : Nat, n < 26 → alpha.cps.toList[n]? = some (97 + n) := by
  have h : (List.range 26).all (fun n => decide (alpha.cps.toList[n]? = some (97 + n))) = true := by decide +kernel
  intro n hn
  exact of_decide_eq_true (List.all_eq_true.mp h n (List.mem_range.mpr hn))
theorem alpha_at {r : Int} (h0 : 0 ≤ r) (h1 : r < 26) : atI alpha.cps.toList r = some (97 + r.toNat) := by
  have e : ((r.toNat : Nat) : Int) = r := by omega
  have h := atI_nat (alpha_all r.toNat (by omega))
  rw [e] at h
  exact h
theorem join_chr : ∀ cs : List Nat, Txt.join (Str.ofString "") (cs.map chr1) = ⟨cs.toArray⟩ := by
  intro cs
  show Builtin.Str.glued (Str.ofString "") (cs.map chr1) = _
  rw [StrLaws.glued_eq_join]
  have e0 : (Str.ofString "") = Str.empty := by decide +kernel
  rw [e0]
  induction cs with
  | nil => rfl
  | cons c r ih =>
    cases r with
    | nil => rfl
    | cons b r =>
      show chr1 c ++ Str.empty ++ Str.join Str.empty ((b :: r).map chr1) = _
      rw [ih]
      show (⟨(#[c] ++ #[]) ++ (b :: r).toArray⟩ : Str) = ⟨(c :: b :: r).toArray⟩
      simp
theorem sum_chr : ∀ cs : List Nat, ((cs.map chr1).map (·.length)).sum = cs.length
  | [] => rfl
  | c :: r => by
    show 1 + ((r.map chr1).map (·.length)).sum = r.length + 1
    rw [sum_chr r]; omega
theorem alpha_len : alpha.length ≤ sizeLine := by decide +kernel
/-- [letters[draw(pool, 26)] for k in range(n)] -/
theorem lc_letters {n i0 i1 ik : Nat} {σ : St} {H1 : Hp} {D p : Addr} {o : HO} {c : Nat} {Qd : Hp → Prop} (hD : H1 D = none) (hp : H1 p = some o) (hc : PoolO o c) (hb : c + n < 2 ^ 40) (hn : n < 1000000)
    (s0 : σ[i0]? = some (some (.ref p))) (s1 : σ[i1]? = some (some (.str alpha))) (n0 : i0 ≠ ik) (n1 : i1 ≠ ik)
    (q : ∀ H' cs o', cs.length = n → Lets cs → Kp (fun b => b = p) H1 H' → H' p = some o' → PoolO o' (c + n) → H' D = some (.lst ((cs.map chr1).map V.str)) → Qd H') :
    ∃ W : Nat → Nat → Hp → Prop, (∃ m, W 0 m (upd H1 D (.lst []))) ∧ ∀ i m H, W i m H →
      ((Itr 0 n).stop i H ∧ Qd H) ∨ ((Itr 0 n).go i H ∧ ∃ Nx : Hp → Prop, (∀ H', Nx H' → ∃ m', m' < m ∧ W (i + 1) m' H') ∧ ∀ x H', (Itr 0 n).yld i H x H' → gName ik x (wipe σ [ik]) H' fun σ2 H2 => wipe σ2 [ik] = wipe σ [ik] ∧ tYes σ2 H2 fun b H3 =>
        if b = true then tOp rIxS (tVar i1) (tCall spDraw [] E0 (tCons (tVar i0) (tCons (tC (.int 26)) tNil))) σ2 H3 fun y H4 => ∃ acc, H4 D = some (.lst acc) ∧ acc.length < sizeLine ∧ Nx (upd H4 D (.lst (acc ++ [y]))) else Nx H3) := by
  have npD : p ≠ D := ne_of_none hp hD
  have w0 : ∀ v, ((wipe σ [ik]).set ik (some v))[i0]? = some (some (.ref p)) := fun v => by
    rw [List.getElem?_set_ne (Ne.symm n0), wipe_out (by simp [n0])]; exact s0
  have w1 : ∀ v, ((wipe σ [ik]).set ik (some v))[i1]? = some (some (.str alpha)) := fun v => by
    rw [List.getElem?_set_ne (Ne.symm n1), wipe_out (by simp [n1])]; exact s1
  refine lc_range (fun i H => ∃ cs o', cs.length = i ∧ Lets cs ∧ Kp (fun b => b = p) H1 H ∧ H p = some o' ∧ PoolO o' (c + i) ∧ H D = some (.lst ((cs.map chr1).map V.str))) ?_ ?_ ?_
  · exact ⟨[], o, rfl, (fun _ h => nomatch h), Kp.refl.new hD, upd_old hp hD, hc, upd_same⟩
  · rintro i H hi ⟨cs, o', e1, e2, e3, e4, e5, e6⟩
    refine ⟨?_, ?_⟩
    · show wipe ((wipe σ [ik]).set ik _) [ik] = wipe σ [ik]
      show (((σ.set ik none).set ik _).set ik none) = σ.set ik none
      rw [List.set_set, List.set_set]
    · refine ⟨_, w1 _, _, w0 _, p, 26, c + i, o', rfl, e4, e5, by decide, by decide, by omega, fun r o2 r0 r1 h2 => ?_⟩
      refine ⟨alpha, r, _, rfl, rfl, alpha_len, alpha_at r0 r1, (cs.map chr1).map V.str, upd_oth (Ne.symm npD) e6, ?_, ?_⟩
      · rw [List.length_map, List.length_map, e1, sizeLine_eq]; omega
      · refine ⟨cs ++ [97 + r.toNat], o2, ?_, ?_, ?_, ?_, h2, ?_⟩
        · rw [List.length_append, e1]; rfl
        · intro x hx
          rcases List.mem_append.mp hx with h | h
          · exact e2 x h
          · rw [List.mem_singleton] at h
            subst h
            omega
        · exact (e3.set rfl).fresh hD
        · exact upd_oth npD upd_same
        · rw [upd_same, List.map_append, List.map_append]; rfl
  · rintro H ⟨cs, o', e1, e2, e3, e4, e5, e6⟩
    exact q H cs o' e1 e2 e3 e4 e5 e6
def spWord : Sp := fun vs H Q _ => ∃ (p : Addr) (c : Nat) (o : HO), vs = [.ref p] ∧ H p = some o ∧ PoolO o c ∧ c < 2 ^ 39 ∧
  ∀ w o' H', IsWord w → PoolO o' (c + 9) → H' p = some o' → Kp (fun b => b = p) H H' → Q (.str w) H'
/-! ### words -/
def okC (c : Nat) : Bool := decide (97 ≤ c) && decide (c ≤ 122)
def wordS (z : Str) : Bool := decide (1 ≤ z.length) && decide (z.length ≤ 8) && z.cps.toList.all okC
def wordB : V → Bool
  | .str z => wordS z
  | _ => false
inductive Thing (H : Hp) : V → Prop
  | str (z : Str) (h : z.length ≤ 1000) (ha : asc z) : Thing H (.str z)
  | int (i : Int) : Thing H (.int i)
  | bl (b : Bool) : Thing H (.bl b)
  | non : Thing H .non
  | lst {p : Addr} {xs : List V} (h : H p = some (.lst xs)) : Thing H (.ref p)
  | tup {p : Addr} {xs : List V} (h : H p = some (.tup xs)) : Thing H (.ref p)
theorem Thing.same {H H' : Hp} {v : V} (s : Same H H') (t : Thing H v) : Thing H' v := by
  cases t with
  | str z h ha => exact .str z h ha
  | int i => exact .int i
  | bl b => exact .bl b
  | non => exact .non
  | lst h => exact .lst (s _ _ h)
  | tup h => exact .tup (s _ _ h)
def strB : V → Bool
  | .str _ => true
  | _ => false
theorem Thing.isi {K : PySem.W.Frag} {H : Hp} {v : V} (t : Thing H v) : ∃ ty, TyX K H v ty ∧ PySem.W.kitOne K ty (.type "str") = some (strB v) := by
  cases t with
  | str z h ha => exact ⟨_, .base (.str z), kit_ty (show kitB "str" "str" = some true by decide +kernel)⟩
  | int i => exact ⟨_, .base (.int i), kit_ty (show kitB "int" "str" = some false by decide +kernel)⟩
  | bl b => exact ⟨_, .base (.bl b), kit_ty (show kitB "bool" "str" = some false by decide +kernel)⟩
  | non => exact ⟨_, .base .non, kit_ty (by decide +kernel)⟩
  | lst h => exact ⟨_, .base (.lst h), kit_ty (show kitB "list" "str" = some false by decide +kernel)⟩
  | tup h => exact ⟨_, .base (.tup h), kit_ty (show kitB "tuple" "str" = some false by decide +kernel)⟩
theorem list1_lt (a b : Nat) : ([a] : List Nat) < [b] ↔ a < b := by
  constructor
  · intro h
    cases h with
    | rel h => exact h
    | cons h => cases h
  · intro h
    exact .rel h
theorem le_a (c : Nat) : (!decide ((⟨#[c]⟩ : Str).cps.toList < (Str.ofString "a").cps.toList)) = decide (97 ≤ c) := by
  have e : (Str.ofString "a").cps.toList = [97] := by decide +kernel
  rw [e, ← decide_not]
  apply decide_eq_decide.mpr
  show ¬ ([c] < [97]) ↔ _
  rw [list1_lt]; omega
theorem le_z (c : Nat) : (!decide ((Str.ofString "z").cps.toList < (⟨#[c]⟩ : Str).cps.toList)) = decide (c ≤ 122) := by
  have e : (Str.ofString "z").cps.toList = [122] := by decide +kernel
  rw [e, ← decide_not]
  apply decide_eq_decide.mpr
  show ¬ ([122] < [c]) ↔ _
  rw [list1_lt]; omega
theorem all_take {α : Type} {p : α → Bool} {l : List α} {i : Nat} {x : α} (h : l[i]? = some x) (a : (l.take i).all p = true) (b : p x = true) : (l.take (i + 1)).all p = true := by
  rw [List.take_add_one, h, List.all_append, a, Bool.true_and]
  show ([x] : List α).all p = true
  rw [List.all_cons, b]; rfl
theorem all_no {α : Type} {p : α → Bool} {l : List α} {i : Nat} {x : α} (h : l[i]? = some x) (b : p x = false) : l.all p = false := by
  cases e : l.all p with
  | false => rfl
  | true =>
    rw [List.all_eq_true.mp e x (List.mem_of_getElem? h)] at b
    cases b
theorem len_toList (z : Str) : z.cps.toList.length = z.length := by simp [Str.length]
theorem IsWord.ok {w : Str} (h : IsWord w) : wordS w = true := by
  unfold wordS
  rw [← len_toList, decide_eq_true h.lo, decide_eq_true h.hi, Bool.true_and, Bool.true_and, List.all_eq_true]
  intro c hc
  have := h.al c hc
  unfold okC
  rw [decide_eq_true this.1, decide_eq_true this.2]; rfl
theorem wordS_of {z : Str} (h : wordS z = true) : IsWord z := by
  unfold wordS at h
  rw [Bool.and_eq_true, Bool.and_eq_true, decide_eq_true_eq, decide_eq_true_eq, List.all_eq_true] at h
  refine ⟨by rw [len_toList]; exact h.1.1, by rw [len_toList]; exact h.1.2, fun c hc => ?_⟩
  have := h.2 c hc
  unfold okC at this
  rw [Bool.and_eq_true, decide_eq_true_eq, decide_eq_true_eq] at this
  exact this
def spIsWord : Sp := fun vs H Q _ => ∃ v, vs = [v] ∧ Thing H v ∧ Q (.bl (wordB v)) H
/-! ### own errors: an __init__ that says super().__init__(text) and stores fields -/
/-- the stores of an __init__: self.F = a parameter | a text -/
inductive Sts (ps : List Str) : List Stmt → List (Str × Sum Nat Str) → Prop
  | nil : Sts ps [] []
  | par {F p : Str} {i : Nat} {q1 q2 q3 q4 : Pos} {r : List Stmt} {fs : List (Str × Sum Nat Str)} (h : ps[i]? = some p) (t : Sts ps r fs) : Sts ps (.Assign [.Attribute (.Name "self" q1) F q2] (.Name p q3) q4 :: r) ((F, .inl i) :: fs)
  | con {F c : Str} {j : Nat} {q1 q2 q3 q4 : Pos} {r : List Stmt} {fs : List (Str × Sum Nat Str)} (t : Sts ps r fs) : Sts ps (.Assign [.Attribute (.Name "self" q1) F q2] (.Constant (.str c) j q3) q4 :: r) ((F, .inr c) :: fs)
def fldV (vs : List V) : Sum Nat Str → V
  | .inl i => vs.getD i .non
  | .inr c => .str c
def errF (vs : List V) : List (Str × Sum Nat Str) → List (Str × V) → List (Str × V)
  | [], acc => acc
  | p :: r, acc => errF vs r ((p.1, fldV vs p.2) :: acc)
/-- an exception while its __init__ runs -/
structure ErrAt (h0 h : Heap) (x C L : Addr) (m : Str → Option Value) (acc : List (Str × V)) (dd : Option Addr) : Prop where
  keep : ∀ b o, b ≠ x → h0.get? b = some o → h.get? b = some o
  sz : h0.objs.size ≤ h.objs.size
  ns : h.Ns L m
  obj : ∃ t1 : Addr, h.get? x = some ({ cls := .ref C, dict := dd, data := .fields #[.ref t1, .none, .none, .none, .bool false, .none] } : Obj)
  dct : match dd with | none => acc = [] | some dx => acc ≠ [] ∧ h0.objs.size ≤ dx ∧ dx ≠ x ∧ dx ≠ L ∧ ∃ mA, h.Ns1 dx mA ∧ ∀ f, RelO (acc.lookup f) (mA f)
theorem kept_but {K : PySem.W.Frag} {h h' : Heap} {x : Addr} (X : K.In h) (hx : K.lookup x = none) (k : ∀ b o, b ≠ x → h.get? b = some o → h'.get? b = some o) : K.In h' := fun a o e =>
  k a o (fun z => by rw [z, hx] at e; cases e) (X a o e)
/-- what the written part says of an error's class, at C; its __init__ at fI -/
structure ErrC (P : Program) (K : PySem.W.Frag) (C fI : Addr) (st : Stmt) (q : Str) (ps : List Str) (fs : List (Str × Sum Nat Str)) : Prop where
  cls : ∃ nm qn N bs bm sn sub ab col dd k0 k1 k2 k3 k5, K.lookup C = some (excClassObj nm qn C N bs bm true sn sub ab col dd k0 k1 k2 k3 k5 "ValueError.__new__") ∧ PySem.HandSPX.refsVE bm = true
  sa : PySem.W.findIn K (.ref C) "__setattr__" = some (some (.builtin "object.__setattr__"))
  ga : PySem.W.findIn K (.ref C) "__getattribute__" = some (some (.builtin "BaseException.__getattribute__"))
  gg : PySem.W.findIn K (.ref C) "__getattr__" = some none
  noF : ∀ p ∈ fs, PySem.W.findIn K (.ref C) p.1 = some none
  iC : PySem.W.findIn K (.ref C) "__init__" = some (some (.ref fI))
  tC : PySem.W.typeIn K (.ref fI) = some (.type "function")
  kC : PySem.W.keepIn K (.ref C) = true
  exC : PySem.W.subIn K (.ref C) (.type "BaseException") = some true
  veC : PySem.W.subIn K (.ref C) (.type "ValueError") = some true
  tyC : PySem.W.typeIn K (.ref C) = some (.type "type")
  hdC : PySem.W.hasDictIn K C = true
  su : PySem.W.ks_superIn K C C "__init__" = some (some (.builtin "ValueError.__init__"))
  mro : PySem.W.mroIn K C (.ref C) = some true
  te : PySem.W.exmOne K (.ref C) (.ref C) = some true
  op : PySem.W.nsIn K cStatics "thirdparty.any" = some none
  fn : ∃ (oc : Value) (od : Option Addr) (doc pm : Value) (an : Option Addr) (cda cc : Addr) (ct : Value) (osl : Array (Option Value)) (ccl : Value) (cdd : Option Addr) (vs : Array Value) (ccs : Array (Option Value)) (tf : Tok) (cl : Value) (cld : Option Addr) (csl : Array (Option Value)),
    K.lookup fI = some ⟨oc, od, .func (PySem.W.ksFn "__init__" q (defArgs st) (defBody st) (defScope st) .none .none doc pm an (.ref cda) ct cc), osl⟩ ∧ PySem.W.codeIn K (.ref cda) q = true ∧
    K.lookup cda = some ⟨ccl, cdd, .fields vs, ccs⟩ ∧ vs[2]? = some (.str P.main.file tf) ∧ K.lookup cc = some ⟨cl, cld, .cell (some (.ref C)), csl⟩
  hd : ∃ ar : Arg, ((defArgs st).posonlyargs ++ (defArgs st).args).head? = some ar ∧ ar.arg = "self"
  bd : ∀ (doc pm : Value) (an : Option Addr) (cda cc : Addr) (ct : Value) (us : List Value), us.length = ps.length + 1 → bindArgs (PySem.W.ksFn "__init__" q (defArgs st) (defBody st) (defScope st) .none .none doc pm an (.ref cda) ct cc) ⟨us, []⟩ = pure ((("self" : Str) :: ps).zip us)
  bo : ∃ (p0 p1 p2 p3 p4 p5 : Pos) (j : Nat) (msg : Str) (sts : List Stmt), defBody st = .Expr (.Call (.Attribute (.Call (.Name "super" p0) [] [] p1) "__init__" p2) [.Constant (.str msg) j p3] [] p4) p5 :: sts ∧ Sts ps sts fs ∧
    ∀ (L cda cc : Addr), ∃ pl : Sem Bool, eval (.Call (.Attribute (.Call (.Name "super" p0) [] [] p1) "__init__" p2) [.Constant (.str msg) j p3] [] p4) (PySem.W.ksEnv q (defScope st) L fI (.ref cda) cc) = (do
      let ov ← attributeBase (.Call (.Name "super" p0) [] [] p1) "__init__" (PySem.W.ksEnv q (defScope st) L fI (.ref cda) cc) (eval (.Call (.Name "super" p0) [] [] p1) (PySem.W.ksEnv q (defScope st) L fI (.ref cda) cc))
      standAt p2.atName
      let (f, first) ← holding [ov] (getMethod ov "__init__" pl)
      callWith p4 f first (backTo p4 (starEach [.Constant (.str msg) j p3] (PySem.W.ksEnv q (defScope st) L fI (.ref cda) cc))) [])
  sck : (defScope st).kind = .function
  scc : (defScope st).isCoroutine = false
  scg : (defScope st).isGenerator = false
  scn : ∀ x ∈ (defScope st).names, x.2 ≠ .cell
  scl : ∀ x ∈ (("self" : Str) :: ps), (defScope st).names.lookup x = some .local
  scs : (defScope st).names.lookup ("super" : Str) = some .globalImplicit
  scf : (defScope st).names.lookup ("__class__" : Str) = some .free
  nd : (("self" : Str) :: ps).Nodup
  top : (P.main.scope.names.lookup ("super" : Str)).isSome = false
section
open PySem PySem.W PySem.Calls PyProof.Rows PySem.HandSPX
variable {prog : Program} {w : World} {A : Around} {K : PySem.W.Frag} {C fI : Addr} {st : Stmt} {q : Str} {ps : List Str} {fs : List (Str × Sum Nat Str)}
theorem err_stores (T : ErrC prog K C fI st q ps fs) {h0 : Heap} {x L : Addr} {m : Str → Option Value} {vs : List V} {env : Env} {E : Value → Shared → Prop} (X0 : K.In h0) (hnx : K.lookup x = none) (hLx : L ≠ x)
    (hself : m "self" = some (.ref x)) (hpar : ∀ (i : Nat) p, ps[i]? = some p → ∃ v u, vs[i]? = some v ∧ RelV v u ∧ m p = some u)
    (hk : env.scope.kind = .function) (hlo : env.locals = L) (hkl : ∀ y ∈ (("self" : Str) :: ps), env.kindOf y = some .local) (hdb : ∀ y ∈ (("self" : Str) :: ps), (y == ("__debug__" : Str)) = false) :
    ∀ {sts : List Stmt} {fs' : List (Str × Sum Nat Str)}, Sts ps sts fs' → (∀ p ∈ fs', p ∈ fs) → ∀ {acc : List (Str × V)} {dd : Option Addr} {s : Shared} {Q : Flow → Shared → Prop}, ErrAt h0 s.heap x C L m acc dd → acc.length + fs'.length ≤ 100 →
      (∀ h' tk dd', ErrAt h0 h' x C L m (errF vs fs' acc) dd' → Q .next { s with heap := h', toks := tk }) → wpAny (model prog w) A (execs sts env) Q E s := by
  obtain ⟨nm, qn, N, bs, bm, sn, sub, ab, col, dd0, k0, k1, k2, k3, k5, hC, hbm⟩ := T.cls
  have hcl : clsIn K C = some { name := nm, bases := bs, mro := .ref C :: bm, ns := N, qualname := qn, hasDict := true, slotNames := sn, subclasses := sub, abstract := ab, collection := col, hasDel := false } := by unfold clsIn; rw [hC] <;> rfl
  have ldl : ∀ {y : Str} {u : Value} {pos : Pos} {s : Shared} {Q : Value → Shared → Prop}, y ∈ (("self" : Str) :: ps) → s.heap.Ns L m → m y = some u → Q u s → wpAny (model prog w) A (eval (.Name y pos) env) Q E s :=
    fun {y u pos s Q} hy hn hv h => wpAny_Name (wpAny_loadName_local hk (hkl y hy) (by rw [hlo]; exact hn) hv h) (hdb y hy)
  have hsf : ("self" : Str) ∈ (("self" : Str) :: ps) := List.mem_cons_self
  -- one store
  have one : ∀ {F : Str} {y : V} {u : Value} {acc : List (Str × V)} {dd : Option Addr} {s : Shared} {Q : Unit → Shared → Prop}, findIn K (.ref C) F = some none → RelV y u → ErrAt h0 s.heap x C L m acc dd → acc.length ≤ 99 →
      (∀ h' tk dd', ErrAt h0 h' x C L m ((F, y) :: acc) dd' → Q () { s with heap := h', toks := tk }) → wpAny (model prog w) A (setAttr (.ref x) F u) Q E s := by
    intro F y u acc dd s Q hF ry S hl hq
    obtain ⟨kp, sz, hn, ⟨t1, hx⟩, hd⟩ := S
    have X : K.In s.heap := kept_but X0 hnx kp
    obtain ⟨hp, g, d, tk, os⟩ := s
    obtain ⟨oL, esL, epL, hoL, hrL⟩ := id hn
    cases dd with
    | none =>
      have hd : acc = [] := hd
      subst hd
      refine set_plain X (ox := excO C t1) (od := none) ⟨hx, rfl, rfl, trivial⟩ T.sa ?_
      refine exc_osa X hx hcl (show refsVE (.ref C :: bm) = true from hbm) rfl hF (fun h₃ tk₃ dx k₃ dn dne hx₃ hn₃ => ?_)
      have dL : dx ≠ L := fun z => by
        have := Heap.lt_size hoL
        rw [← z] at this
        exact absurd (Nat.lt_of_lt_of_le this dn) (Nat.lt_irrefl _)
      have z3 : dx < h₃.objs.size := by
        obtain ⟨o, _, _, e, _⟩ := hn₃
        exact Heap.lt_size e
      refine hq h₃ tk₃ (some dx) ⟨fun b o hb e => k₃ b o hb (kp b o hb e), Nat.le_of_lt (Nat.lt_of_le_of_lt (Nat.le_trans sz dn) z3), ⟨oL, esL, epL, k₃ _ _ hLx hoL, hrL⟩, ⟨t1, hx₃⟩, ?_⟩
      exact ⟨List.cons_ne_nil _ _, Nat.le_trans sz dn, dne, dL, _, hn₃, relO_put (fs := []) ry fun g => True.intro⟩
    | some dx =>
      obtain ⟨_, d1, d2, d3, mA, hns, rel⟩ := hd
      have hw := within_of rel
      obtain ⟨oD, _, _, hoD, _, _⟩ := hns.count hw
      refine set_plain X (ox := { cls := .ref C, dict := some dx, data := .fields #[.ref t1, .none, .none, .none, .bool false, .none] }) (od := some oD) ⟨hx, rfl, rfl, hoD⟩ T.sa ?_
      refine PySem.OEX.osa_old X hx hns hw (by rw [List.length_map]; omega) hcl (show refsVE (.ref C :: bm) = true from hbm) rfl hF (fun h' tk' k hn' => ?_)
      have z3 : dx < h'.objs.size := by
        obtain ⟨o, _, _, e, _⟩ := hn'
        exact Heap.lt_size e
      refine hq h' tk' (some dx) ⟨fun b o hb e => k b o (fun z => ?_) (kp b o hb e), Nat.le_of_lt (Nat.lt_of_le_of_lt d1 z3), ⟨oL, esL, epL, k _ _ (Ne.symm d3) hoL, hrL⟩, ⟨t1, k _ _ (Ne.symm d2) hx⟩, ⟨List.cons_ne_nil _ _, d1, d2, d3, _, hn', relO_put ry rel⟩⟩
      have := Heap.lt_size e
      rw [z] at this
      exact absurd (Nat.lt_of_lt_of_le this d1) (Nat.lt_irrefl _)
  intro sts fs' S
  induction S with
  | nil =>
    intro hfs acc dd s Q S hl hq
    exact wpAny_execs_nil (by have := hq s.heap s.toks dd S; exact this)
  | @par F p i q1 q2 q3 q4 r fs1 h t ih =>
    intro hfs acc dd s Q S hl hq
    obtain ⟨v, u, hv, ru, hm⟩ := hpar i p h
    have hp : p ∈ (("self" : Str) :: ps) := List.mem_cons_of_mem _ (List.mem_of_getElem? h)
    refine wpAny_execs_cons (plainObj_wpAny_Assign_Attribute ?_)
    refine ldl hp S.ns hm (ldl hsf S.ns hself ?_)
    have hl2 : acc.length + (fs1.length + 1) ≤ 100 := hl
    refine one (hfs _ List.mem_cons_self |> T.noF _) ru S (by omega) fun h' tk dd' S' => ?_
    refine ih (fun z hz => hfs z (List.mem_cons_of_mem _ hz)) (s := { s with heap := h', toks := tk }) S' (by rw [List.length_cons]; omega) fun h'' tk' dd'' S'' => ?_
    have e : errF vs ((F, Sum.inl i) :: fs1) acc = errF vs fs1 ((F, v) :: acc) := by
      show errF vs fs1 ((F, vs.getD i .non) :: acc) = _
      rw [List.getD_eq_getElem?_getD, hv]; rfl
    rw [e] at hq
    exact hq h'' tk' dd'' S''
  | @con F c j q1 q2 q3 q4 r fs1 t ih =>
    intro hfs acc dd s Q S hl hq
    refine wpAny_execs_cons (plainObj_wpAny_Assign_Attribute ?_)
    refine Calls.Constant_str (ldl (s := { s with toks := s.toks + 1 }) hsf S.ns hself ?_)
    have hl2 : acc.length + (fs1.length + 1) ≤ 100 := hl
    refine one (y := .str c) (s := { s with toks := s.toks + 1 }) (hfs _ List.mem_cons_self |> T.noF _) ⟨_, rfl⟩ S (by omega) fun h' tk dd' S' => ?_
    refine ih (fun z hz => hfs z (List.mem_cons_of_mem _ hz)) (s := { s with heap := h', toks := tk }) S' (by rw [List.length_cons]; omega) fun h'' tk' dd'' S'' => ?_
    exact hq h'' tk' dd'' S''
end
section
open PySem PySem.W PySem.Calls PyProof.Rows PySem.HandSPX
variable {prog : Program} {w : World} {A : Around} {K : PySem.W.Frag} {C fI : Addr} {st : Stmt} {q : Str} {ps : List Str} {fs : List (Str × Sum Nat Str)}
theorem call_mw (T : ErrC prog K C fI st q ps fs) {E : Value → Shared → Prop} {h : Heap} {g : Array GenState} {d : Drawn} {t : Nat} {os : OsState} {u e t0 : Addr} {rest : List Value} {Q : Value → Shared → Prop} (X : K.In h)
    (he : h.get? e = some (excO C t0)) (hu : h.get? u = some (kxs_mw "ValueError.__init__" e)) (hrest : rest.length ≤ sizeLine)
    (hq : ∀ h' t1, (∀ b o, b ≠ e → h.get? b = some o → h'.get? b = some o) → h'.get? e = some (excO C t1) → Q .none ⟨h', g, d, t, os⟩) :
    wpAny (model prog w) A (call (.ref u) rest) Q E ⟨h, g, d, t, os⟩ := by
  obtain ⟨nm, qn, N, bs, bm, sn, sub, ab, col, dd0, k0, k1, k2, k3, k5, hC, hbm⟩ := T.cls
  refine wpAny_call (codeAny_of_tree ?_)
  show wpAny _ A.in1 (callAny (.ref u) ⟨rest, []⟩) _ _ _
  simp only [callAny]
  refine wpAny_bind (wpAny_load hu ?_)
  simp only [kxs_mw, show (Value.type "method-wrapper" == Value.type "method" || Value.type "method-wrapper" == Value.type "builtin_function_or_method" || Value.type "method-wrapper" == Value.type "method-wrapper") = true by decide, if_true]
  refine KFB.if_so (by decide) ?_
  refine wpAny_bind (check_bound_init F.excBase_ValueError.toExcCallFacts (X _ _ hC) he rfl ?_)
  refine wpAny_bind (wpAny_pure (wpAny_pure ?_))
  refine ⟨plainId_quiet F.excBase_ValueError.init.plain _, codeAny_builtin F.excBase_ValueError.initEntry ?_⟩
  exact exc_init_tree (cls := .ref C) (t0 := t0) (dv := none) (c2 := .none) (c3 := .none) (b4 := .bool false) he hrest fun h' k e1 _ => hq h' _ k e1
theorem err_init (T : ErrC prog K C fI st q ps fs) {R : Result → Shared → Prop} {s : Shared} {x t0 : Addr} {vs : List V} {us : List Value} {mg : Str → Option Value} (X : K.In s.heap) (hlim : s.heap.NoLimit)
    (G : s.heap.Ns mainGlobals mg) (hsup : mg "super" = none) (B : ∃ mb, s.heap.Ns builtinsNs mb ∧ ∀ y : Str, y ≠ "__name__" → mb y = bootBuiltins y)
    (hx : s.heap.get? x = some (excO C t0)) (hnx : K.lookup x = none) (hroom : A.depth < recursionLimit) (hv : Vals vs us) (hlen : vs.length = ps.length) (hfs : fs.length ≤ 90) (hdb : ∀ y ∈ (("self" : Str) :: ps), (y == ("__debug__" : Str)) = false)
    (hq : ∀ h' tk dd L m, L ≠ x → s.heap.objs.size ≤ L → ErrAt s.heap h' x C L m (errF vs fs []) dd → R (.ok (.ret .none)) { s with heap := h', toks := tk }) :
    codeAny (model prog w) A (.call (.ref fI) ⟨.ref x :: us, []⟩) R s := by
  obtain ⟨oc, od, doc, pm, an, cda, cc, ct, osl, ccl, cdd, cvs, ccs, tf, cl, cld, csl, ho, hcd, hcode, hcv, hcell⟩ := T.fn
  obtain ⟨nm, qn, N, bs, bm, sn, sub, ab, col, dd0, k0, k1, k2, k3, k5, hC, hbm⟩ := T.cls
  obtain ⟨p0, p1, p2, p3, p4, p5, j, msg, sts, hbody, hsts, hev⟩ := T.bo
  obtain ⟨ar, har, hself⟩ := T.hd
  have hcl : clsIn K C = some { name := nm, bases := bs, mro := .ref C :: bm, ns := N, qualname := qn, hasDict := true, slotNames := sn, subclasses := sub, abstract := ab, collection := col, hasDel := false } := by unfold clsIn; rw [hC] <;> rfl
  have hul : us.length = ps.length := by rw [← hlen]; exact hv.length.symm
  have hbind := BindsTo.of_eq (s := s) (T.bd doc pm an cda cc ct (.ref x :: us) (by rw [List.length_cons, hul]))
  have binK : ∀ y ∈ ((("self" : Str) :: ps).zip (Value.ref x :: us)), (defScope st).names.lookup y.1 = some .local := fun ⟨n, u⟩ hy => T.scl n (List.of_mem_zip hy).1
  refine ks_codeAny_call_defAt (fd := ksFn "__init__" q (defArgs st) (defBody st) (defScope st) .none .none doc pm an (.ref cda) ct cc) (body := defBody st) (binds := (("self" : Str) :: ps).zip (Value.ref x :: us)) hroom (X _ _ ho) rfl hlim (codeRec_of X hcd) rfl hbind T.scn binK (fun h₁ hns hk₁ => ?_) T.scc T.scg T.sck
  have X₁ : K.In h₁ := X.keeps hk₁
  have hx₁ := hk₁ _ _ hx
  have hLx : s.heap.objs.size ≠ x := Nat.ne_of_gt (Heap.lt_size hx)
  have sz1 : s.heap.objs.size < h₁.objs.size := hns.lt
  generalize hm : (fun y => (List.reverse ((("self" : Str) :: ps).zip (Value.ref x :: us))).lookup y) = m at hns
  have key : ∀ (l1 : List Str) (l2 : List Value) (i : Nat) (y : Str) (u : Value), l1.Nodup → l1[i]? = some y → l2[i]? = some u → (List.reverse (l1.zip l2)).lookup y = some u := by
    intro l1
    induction l1 with
    | nil => intro l2 i y u _ h _; simp at h
    | cons a r ih =>
      intro l2 i y u nd h1 h2
      cases l2 with
      | nil => simp at h2
      | cons b l2 =>
        rw [List.zip_cons_cons, List.reverse_cons, List.lookup_append]
        cases i with
        | zero =>
          simp only [List.getElem?_cons_zero, Option.some.injEq] at h1 h2
          subst h1 h2
          have : (List.reverse (r.zip l2)).lookup a = none := by
            rw [List.lookup_eq_none_iff]
            intro p hp
            have hp' := List.mem_reverse.mp hp
            have := (List.of_mem_zip (show (p.1, p.2) ∈ r.zip l2 from hp')).1
            simp only [beq_eq_false_iff_ne, ne_eq, bne_iff_ne]
            intro e
            rw [e] at nd
            exact (List.nodup_cons.mp nd).1 this
          rw [this]
          simp [List.lookup]
        | succ i =>
          rw [ih l2 i y u (List.nodup_cons.mp nd).2 h1 h2]; rfl
  have mself : m "self" = some (.ref x) := by rw [← hm]; exact key _ _ 0 _ _ T.nd rfl rfl
  have mpar : ∀ (i : Nat) p, ps[i]? = some p → ∃ v u, vs[i]? = some v ∧ RelV v u ∧ m p = some u := fun i p hp => by
    have hi : i < vs.length := by rw [hlen]; exact (List.getElem?_eq_some_iff.mp hp).1
    obtain ⟨u, hu, ru⟩ := hv.get (List.getElem?_eq_getElem hi)
    refine ⟨_, u, List.getElem?_eq_getElem hi, ru, ?_⟩
    rw [← hm]
    exact key _ _ (i + 1) _ _ T.nd hp hu
  have hDget : h₁.get? C = some (excClassObj nm qn C N bs bm true sn sub ab col dd0 k0 k1 k2 k3 k5 "ValueError.__new__") := X₁ _ _ hC
  obtain ⟨pl, hev⟩ := hev s.heap.objs.size cda cc
  show _root_.PySem.wpAt _ (A.deeper (ksEnv q (defScope st) s.heap.objs.size fI (.ref cda) cc)) (.func (defBody st) (ksEnv q (defScope st) s.heap.objs.size fI (.ref cda) cc)) (execs (defBody st) (ksEnv q (defScope st) s.heap.objs.size fI (.ref cda) cc)) _ _ _
  generalize henv : ksEnv q (defScope st) s.heap.objs.size fI (.ref cda) cc = env at hev ⊢
  have e1 : env.scope = defScope st := by rw [← henv]
  have e2 : env.locals = s.heap.objs.size := by rw [← henv]
  have e3 : env.func = some fI := by rw [← henv]
  have e4 : env.code = .ref cda := by rw [← henv]
  have e5 : env.globals = mainGlobals := by rw [← henv]
  have e6 : env.builtins = builtinsNs := by rw [← henv]
  have e7 : env.cells.lookup ("__class__" : Str) = some cc := by rw [← henv]; rfl
  have kd : ∀ y, env.kindOf y = (defScope st).names.lookup y := fun y => by rw [← henv]; rfl
  have hkf : env.scope.kind = .function := by rw [e1]; exact T.sck
  generalize hbb : defBody st = body
  rw [hbb] at hbody
  have hbody2 : execs body env = execs (.Expr (.Call (.Attribute (.Call (.Name "super" p0) [] [] p1) "__init__" p2) [.Constant (.str msg) j p3] [] p4) p5 :: sts) env := by rw [hbody]
  rw [hbody2]
  refine ks_wpAt_execs_cons (ks_wpAt_Expr_any ?_ (by simp [interactive, hkf]) rfl)
  refine ks_wpAt_MethodCall (pl := pl) ?_ hev
  refine ks_wpAt_super_base ((kd _).trans T.scs) ((kd _).trans T.scf) (by decide) e3 (hk₁ _ _ (X _ _ ho)) rfl har e4 (X₁ _ _ hcode) rfl hcv (by simp) T.top ?_
  obtain ⟨mb, hB1, hB2⟩ := B
  refine ks_loadName_global hkf ((kd _).trans T.scs) (loadGlobal_builtin (by rw [e5]; exact G.keeps hk₁) hsup (by rw [e6]; exact hB1.keeps hk₁) ((hB2 _ (by decide)).trans (by decide +kernel)) ⟨rfl, ?_⟩)
  refine wpAny_loadName_free hkf ((kd _).trans T.scf) e7 ⟨_, X₁ _ _ hcell, rfl⟩ ?_
  rw [hself]
  refine wpAny_loadName_local hkf ((kd _).trans (T.scl _ List.mem_cons_self)) (by rw [e2]; exact hns) mself ?_
  refine ks_wpAny_isType_cls hDget rfl ⟨rfl, ?_⟩
  obtain ⟨hp0, g, d, tk, os⟩ := s
  refine ks_wpAny_call_super (ox := excO C t0) hDget rfl hx₁ rfl (fun c e => nomatch e) (looks_mroIn X₁ T.mro) (fun h₂ e₂ k₂ => ?_)
  have X₂ : K.In h₂ := X₁.keeps k₂
  have I₂ : InstAt h₂ x (excO C t0) C none := ⟨k₂ _ _ hx₁, rfl, rfl, trivial⟩
  have hsu := T.su
  unfold ks_superIn at hsu
  rw [hcl] at hsu
  refine kxs_getMethod kxs_ValueError e₂ (looks_opaque X₂ T.op) (l₀ := .ref C :: bm) ?_ rfl X₂ hsu (I₂.type.andThen (looks_subIn X₂ T.veC)) (ks_ne X₂ I₂ hcl) (by decide) ?_
  · exact fun A Q E s k q => wpAny_bind ((looks_clsIn X₂ hcl) A _ E s k (wpAny_pure q))
  have hu : (h₂.push (kxs_mw "ValueError.__init__" x)).get? h₂.objs.size = some (kxs_mw "ValueError.__init__" x) := Heap.get?_push_at rfl rfl
  have k₃ : ∀ b o, h₂.get? b = some o → (h₂.push (kxs_mw "ValueError.__init__" x)).get? b = some o := fun b o e => Heap.get?_push_of_some _ e
  show wpAny _ _ (callWith p4 (.ref h₂.objs.size) [] (backTo p4 (starEach [.Constant (.str msg) j p3] env)) []) _ _ _
  refine kxs_callWith (i := "ValueError.__init__") (x := x) rfl (evalArgs_plain ?_)
  show wpAny _ _ (spliced [(false, eval (.Constant (.str msg) j p3) env)]) _ _ _
  refine spliced_cons (Constant_str (spliced_nil ⟨hu, ?_⟩))
  refine call_mw T (X₂.keeps k₃) (k₃ _ _ (k₂ _ _ hx₁)) hu (by show 1 ≤ sizeLine; decide) fun h₄ t1 k₄ hx₄ => ?_
  show _root_.PySem.wpAt _ _ _ (execs sts env) _ _ _
  refine wpAt_of_wpAny ?_
  have keep4 : ∀ b o, b ≠ x → hp0.get? b = some o → h₄.get? b = some o := fun b o hb e => k₄ b o hb (k₃ _ _ (k₂ _ _ (hk₁ _ _ e)))
  obtain ⟨oL, esL, epL, hoL, hrL⟩ := id hns
  have hoL4 : h₄.get? hp0.objs.size = some oL := k₄ _ _ hLx (k₃ _ _ (k₂ _ _ hoL))
  have S0 : ErrAt hp0 h₄ x C hp0.objs.size m [] none := ⟨keep4, Nat.le_of_lt (Heap.lt_size hoL4), ⟨oL, esL, epL, hoL4, hrL⟩, ⟨t1, hx₄⟩, rfl⟩
  refine err_stores T (h0 := hp0) X hnx hLx mself mpar hkf e2 (fun y hy => (kd y).trans (T.scl y hy)) hdb hsts (fun _ z => z) (acc := []) (s := ⟨h₄, g, d, _, os⟩) S0 (by rw [List.length_nil]; omega) fun h' tk' dd' S' => ?_
  exact hq h' tk' dd' hp0.objs.size m hLx (Nat.le_refl _) S'
end
section
open PySem PySem.Spec PyProof.Rows
variable {X : Cx} {C fI : Addr} {st : Stmt} {q : Str} {ps : List Str} {fs : List (Str × Sum Nat Str)}
/-- what the making of such an error leaves: its class, its own dict (new), the fields -/
def errQ (C : Addr) (fs : List (Str × Sum Nat Str)) (vs : List V) (H1 : Hp) (Q : XK) : Prop := match fs with
  | [] => Q (.ref C) none H1
  | p :: r => ∀ d, H1 d = none → Q (.ref C) (some d) (upd H1 d (.xd (errF vs (p :: r) [])))
def tErr (C : Addr) (n : Nat) (fs : List (Str × Sum Nat Str)) (ta : TA) : L2.St → Hp → XK → Prop := fun σ H Q => ta σ H fun vs H1 => vs.length = n ∧ errQ C fs vs H1 Q
theorem errF_nil {vs : List V} : ∀ {fs : List (Str × Sum Nat Str)} {acc : List (Str × V)}, errF vs fs acc = [] → fs = [] ∧ acc = []
  | [], acc, e => ⟨rfl, e⟩
  | p :: r, acc, e => by
    obtain ⟨_, h⟩ := errF_nil (fs := r) (acc := (p.1, fldV vs p.2) :: acc) e
    cases h
theorem err_made (T : ErrC X.prog X.K C fI st q ps fs) {pins : List (Addr × Obj)} {σ : L2.St} {H1 : Hp} {s1 : Shared} {Q : XK} {vs : List V} {us : List Value} {k : Nat} (hsup : X.mg "super" = none) (hr : Room k X.A) (hfs : fs.length ≤ 90)
    (hdb : ∀ y ∈ (("self" : Str) :: ps), (y == ("__debug__" : Str)) = false) (I1 : Inv X pins σ H1 s1) (r : Vals vs us) (hl : vs.length = ps.length) (hz : us.length ≤ sizeLine)
    (q1 : errQ C fs vs H1 Q) :
    wpAny (model X.prog X.w) X.A (call (.ref C) us) (MkP X pins σ Q) X.xe s1 := by
  obtain ⟨nm, qn, N, bs, bm, sn, sub, ab, col, dd0, k0, k1, k2, k3, k5, hC, hbm⟩ := T.cls
  have hlim := I1.nolimit
  have KX := I1.kIn
  have G := I1.mod.glob.keeps I1.bk
  have B : ∃ mb, s1.heap.Ns builtinsNs mb ∧ ∀ y : Str, y ≠ "__name__" → mb y = bootBuiltins y := by
    obtain ⟨mb, b1, b2⟩ := I1.mod.blt
    exact ⟨mb, b1.keeps I1.bk, b2⟩
  obtain ⟨hp, g, dr, tk, os⟩ := s1
  have kk : ∀ b o, hp.get? b = some o → ((hp.push (PySem.W.kdv_tup us)).push (PySem.HandSPX.excO C hp.objs.size)).get? b = some o := fun b o e => Heap.get?_push_of_some _ (Heap.get?_push_of_some _ e)
  have hget : ((hp.push (PySem.W.kdv_tup us)).push (PySem.HandSPX.excO C hp.objs.size)).get? (hp.objs.size + 1) = some (PySem.HandSPX.excO C hp.objs.size) := by heap_get
  have hnx : X.K.lookup (hp.objs.size + 1) = none := by
    cases e : X.K.lookup (hp.objs.size + 1) with
    | none => rfl
    | some o =>
      have z : hp.get? (hp.objs.size + 1) = some o := KX _ _ e
      exact absurd (Nat.lt_of_succ_lt (Heap.lt_size z)) (Nat.lt_irrefl _)
  refine wpAny_call (PySem.HandSPX.call_own F.excBase_ValueError (fun Y => PySem.HandSPX.refsVE_contains Y bm hbm) (KX _ _ hC) (PySem.W.looks_findIn KX T.iC) (fun self => PySem.W.bind_fn KX self T.tC) hz ?_)
  have hdp := hr.dp
  refine err_init T (vs := vs) (mg := X.mg) (s := ⟨(hp.push (PySem.W.kdv_tup us)).push (PySem.HandSPX.excO C hp.objs.size), g, dr, tk, os⟩) (KX.keeps kk) (hlim.keeps kk) (G.keeps kk) hsup (let ⟨mb, b1, b2⟩ := B; ⟨mb, b1.keeps kk, b2⟩) hget hnx ?_ r hl hfs hdb fun h' tk' dd L m hLx hLz S => ?_
  · show X.A.depth + 1 < recursionLimit
    omega
  obtain ⟨kp, sz, hn, ⟨t1, hx⟩, hd⟩ := S
  have e2 : ((hp.push (PySem.W.kdv_tup us)).push (PySem.HandSPX.excO C hp.objs.size)).objs.size = hp.objs.size + 2 := by simp [Heap.size_push]
  have old0 : ∀ b o, hp.get? b = some o → h'.get? b = some o := fun b o e => kp b o (Nat.ne_of_lt (Nat.lt_succ_of_lt (Heap.lt_size e))) (kk b o e)
  obtain ⟨G', g1, g2⟩ := restrict h' fun b => decide (b ≠ hp.objs.size + 1)
  have gk : ∀ b, b ≠ hp.objs.size + 1 → G'.get? b = h'.get? b := fun b hb => g1 b (decide_eq_true hb)
  have ge : G'.get? (hp.objs.size + 1) = none := g2 _ (by simp)
  have old : ∀ b o, hp.get? b = some o → G'.get? b = some o := fun b o e => (gk b (Nat.ne_of_lt (Nat.lt_succ_of_lt (Heap.lt_size e)))).trans (old0 b o e)
  have sub2 : ∀ b o, G'.get? b = some o → h'.get? b = some o := fun b o e => by
    by_cases hb : b = hp.objs.size + 1
    · rw [hb, ge] at e; cases e
    · rw [← gk b hb]; exact e
  refine ⟨rfl, ?_⟩
  show MkP X pins σ Q (.ref (hp.objs.size + 1)) ⟨h', g, dr, tk', os⟩
  cases dd with
  | none =>
    have hd : errF vs fs [] = [] := hd
    obtain ⟨rfl, _⟩ := errF_nil hd
    have J : Inv X pins σ H1 ⟨G', g, dr, tk', os⟩ := I1.kept (t' := tk') old
    exact ⟨hp.objs.size + 1, _, _, ⟨G', g, dr, tk', os⟩, H1, .ref C, none, rfl, J, sub2, ge, hx, ⟨rfl, rfl⟩, rfl, rfl, I1.hok.fresh (Nat.le_succ _), rfl, I1.bare, raises_own T.exC T.tyC, q1⟩
  | some dx =>
    obtain ⟨d0, d1, d2, d3, mA, hns, rel⟩ := hd
    rw [e2] at d1
    have hdx : hp.objs.size ≤ dx := Nat.le_trans (Nat.le_add_right _ 2) d1
    have nd : H1 dx = none := I1.hok.fresh hdx
    have ob : ObjOk X.prog X.w (upd H1 dx (.xd (errF vs fs []))) G' dx (.xd (errF vs fs [])) := ⟨mA, hns.at (fun o q => (gk dx d2).trans q), rel⟩
    have J : Inv X pins σ (upd H1 dx (.xd (errF vs fs []))) ⟨G', g, dr, tk', os⟩ := I1.laid (t' := tk') old hdx ob
    refine ⟨hp.objs.size + 1, _, _, ⟨G', g, dr, tk', os⟩, _, .ref C, some dx, rfl, J, sub2, ge, hx, ⟨rfl, rfl⟩, rfl, rfl, ?_, rfl, I1.bare, raises_own T.exC T.tyC, ?_⟩
    · rw [upd_ne (Ne.symm d2)]
      exact I1.hok.fresh (Nat.le_succ _)
    · cases fs with
      | nil =>
        exact absurd rfl d0
      | cons p r => exact q1 dx nd
/-- C(e, ..) -/
theorem pmk_err {x : Str} {e : Expr} {es : List Expr} {ta : TA} {p pos : Pos} {k : Nat} (T : ErrC X.prog X.K C fI st q ps fs) (hm : X.mg x = some (.ref C)) (hsup : X.mg "super" = none) (hr : Room k X.A) (ha : PA X (e :: es) ta) (hg : Gl X x := by rfl)
    (hfs : fs.length ≤ 90 := by decide) (hps : ps.length ≤ 90 := by decide) (hdb : ∀ y ∈ (("self" : Str) :: ps), (y == ("__debug__" : Str)) = false := by decide) (hd : (x == ("__debug__" : Str)) = false := by decide)
    (he : starEach (e :: es) X.env = (false, eval e X.env) :: starEach es X.env := by rfl) (hpl : (backTo pos (starEach es X.env)).any (·.1) = false := by rfl) :
    PMk X (.Call (.Name x p) (e :: es) [] pos) (tErr C ps.length fs ta) := by
  intro pins s σ H Q I h
  refine wpAny_Call_Name_kw (ld_glob I hg hm ?_ hd)
  refine PySem.W.callWith_K (h₀ := X.base) I.ok.mod.kin T.kC (thn (ha.run pos pins s σ H _ I h) fun us s1 hh => ?_) he hpl
  obtain ⟨vs, H1, I1, r1, hl, q1⟩ := hh
  refine ⟨I1.kIn, ?_⟩
  exact err_made T hsup hr hfs hdb I1 r1 hl (by rw [List.nil_append, ← r1.length, hl, sizeLine_eq]; omega) q1
/-- C() -/
theorem pmk_err0 {x : Str} {p pos : Pos} {k : Nat} (T : ErrC X.prog X.K C fI st q [] fs) (hm : X.mg x = some (.ref C)) (hsup : X.mg "super" = none) (hr : Room k X.A) (hg : Gl X x := by rfl)
    (hfs : fs.length ≤ 90 := by decide) (hd : (x == ("__debug__" : Str)) = false := by decide) :
    PMk X (.Call (.Name x p) [] [] pos) (tErr C 0 fs tNil) := by
  intro pins s σ H Q I h
  refine wpAny_Call_Name_kw (ld_glob I hg hm ?_ hd)
  refine PySem.W.callWith_K0 I.kIn T.kC ?_
  obtain ⟨_, q1⟩ := h
  exact err_made T (vs := []) (us := []) hsup hr hfs (by decide) I .nil rfl (Nat.zero_le _) q1
end
/-! ### several except clauses, with or without a name -/
section
open PySem PySem.Spec PyProof.Rows
abbrev Cls1 := Value × Option Nat × (Addr → Value → Option Addr → TS)
def endsAs (i : Nat) (D : Ends) : Ends := { nx := fun σ' H' => D.nx (σ'.set i none) H', rt := D.rt, bk := fun σ' H' => D.bk (σ'.set i none) H', ct := fun σ' H' => D.ct (σ'.set i none) H' }
def wCl (D : Ends) (on : Option Nat) (ts : Addr → Value → Option Addr → TS) (a : Addr) (cls : Value) (d : Option Addr) (σ : L2.St) (H : Hp) : Prop := match on with
  | none => ts a cls d D σ H
  | some i => ts a cls d (endsAs i D) (σ.set i (some (.ref a))) H
/-- what the clauses wish of an exception of the body, one after the other -/
def wManyA (K : PySem.W.Frag) (Wout : WX) (D : Ends) : List Cls1 → WX
  | [] => Wout
  | (c, on, ts) :: r => fun cls d σ H => ∃ b, PySem.W.exmOne K cls c = some b ∧ (b = true → ∀ a, H a = none → wCl D on ts a cls d σ H) ∧ (b = false → wManyA K Wout D r cls d σ H)
inductive HdsA (X : Cx) : List ExceptHandler → List Cls1 → Prop
  | nil : HdsA X [] []
  | cons {x : Str} {c : Value} {ts : Addr → Value → Option Addr → TS} {b₀ : Stmt} {suite : List Stmt} {np pos' : Pos} {hds : List ExceptHandler} {l : List Cls1} (hc : Names X x c)
      (hsu : ∀ (a : Addr) (oe : Obj) (cls : Value) (d : Option Addr) (pn : List (Addr × Obj)), Zc cls d oe → (∃ vs, oe.data = .fields vs) → PSs (X.suite a ((a, oe) :: pn)) (b₀ :: suite) (ts a cls d)) (r : HdsA X hds l) :
      HdsA X (.ExceptHandler (some (.Name x np)) none (b₀ :: suite) pos' :: hds) ((c, none, ts) :: l)
  | consA {x n : Str} {c : Value} {i : Nat} {ts : Addr → Value → Option Addr → TS} {b₀ : Stmt} {suite : List Stmt} {np pos' : Pos} {hds : List ExceptHandler} {l : List Cls1} (hc : Names X x c) (hi : X.N[i]? = some n) (hln : X.env.kindOf n = some .local)
      (hsu : ∀ (a : Addr) (oe : Obj) (cls : Value) (d : Option Addr) (pn : List (Addr × Obj)), Zc cls d oe → (∃ vs, oe.data = .fields vs) → PSs (X.suite a ((a, oe) :: pn)) (b₀ :: suite) (ts a cls d)) (r : HdsA X hds l) :
      HdsA X (.ExceptHandler (some (.Name x np)) (some n) (b₀ :: suite) pos' :: hds) ((c, some i, ts) :: l)
variable {X : Cx} {body : List Stmt} {h₀ : ExceptHandler} {hds : List ExceptHandler} {l : List Cls1} {pos : Pos} {tb : WX → TS} {Wout : WX}
theorem ps_tryA (hs : X.stack = X.env :: X.outer) (hf : X.env.frame = some X.env.locals) (hN : X.N.Nodup) (tk : Takes X Wout)
    (hb : ∀ (W : WX) (pn : List (Addr × Obj)) (xe : Value → Shared → Prop), Takes (X.tr pn xe) W → PassesOwn (model X.prog X.w) X.A X.env xe → PSs (X.tr pn xe) body (tb W))
    (hh : HdsA X (h₀ :: hds) l) : PS X (.Try body (h₀ :: hds) [] [] pos) (fun D σ H => tb (wManyA X.K Wout D l) D σ H) := by
  refine ⟨fun pins s σ H D I h => ?_⟩
  have ok := I.ok
  have hfr : X.A.frames = some (X.env :: X.outer) := by rw [ok.frames, hs]
  refine wpAny_Try_except ?_
  refine wpAny_mono ((hb (wManyA X.K Wout D l) (X.pn ++ pins) (fun e s₁ => wpAny (model X.prog X.w) X.A (noteFrame e X.env) (fun _ s₂ => wpAny (model X.prog X.w) X.A (setFlight e none) (fun _ s₃ =>
    wpAny (model X.prog X.w) X.A (handleBy e X.env (h₀ :: hds)) (SP X pins D) X.xe s₃) X.xe s₂) X.xe s₁) (fun u s' xx => ?_) PassesOwn.looking).run [] s σ H D (I.toTry _) h) (fun f s1 hsp => ?_) (fun e s1 he => he)
  · -- the catch
    obtain ⟨a, B, sI, pins', σ', H', cls, d, rfl, J', nb, up, sky, na, os, ag, w⟩ := xx
    have J : Inv X pins σ' H' sI := J'.ofTry ok
    have sky' : Sky B (X.env :: X.outer) a (Zc cls d) X.env.locals s'.heap := by rw [← hs]; exact sky
    show wpAny (model X.prog X.w) X.A (noteFrame (.ref a) X.env) _ _ _
    refine Sky.land Zc.steady hfr hf sky' fun h3 fl3 up3 => ?_
    have J3 : Inv X pins σ' H' { s' with heap := h3 } := J.landed nb fl3.1 (up.trans up3) os ag
    obtain ⟨oe3, vs3, he3, hz3, hd3⟩ := fl3.there
    have notFr : ∀ {h : Heap} {o : Obj} {vs : Array Value}, h.FunFrames B (X.env :: X.outer) → h.get? a = some o → o.data = .fields vs → a ∉ frs (X.env :: X.outer) := fun {h o vs} ff e dd hm => by
      obtain ⟨_, o', e', hnf⟩ := ff.mem hm
      rw [e] at e'; cases e'
      exact hnf _ dd
    have nfr := notFr fl3.2.2.1 he3 hd3
    have nL : a ≠ X.env.locals := fun z => nfr (List.mem_filterMap.mpr ⟨X.env, List.mem_cons_self, by rw [hf, z]⟩)
    have nF : a ∉ X.fs := fun hm => by
      obtain ⟨e, he, q⟩ := List.mem_filterMap.mp hm
      exact nfr (List.mem_filterMap.mpr ⟨e, List.mem_cons_of_mem _ he, q⟩)
    have S3 := J3.suite he3 hd3 na nL nF
    have tst : ∀ {x : Str} {c : Value} {np : Pos}, Names X x c → ∀ {Q : Value → Shared → Prop} {E : Value → Shared → Prop}, Q c { s' with heap := h3 } → wpAny (model X.prog X.w) (X.A.mark (some (.ref a))) (eval (.Name x np) X.env) Q E { s' with heap := h3 } := fun {x c np} hc {Q E} q => by
      obtain ⟨hg, hdbg, hm | ⟨hm, hv, hnn⟩⟩ := hc
      · exact ld_glob (X := X.suite a ((a, oe3) :: (X.pn ++ pins))) S3 hg hm q hdbg
      · exact ld_blt (X := X.suite a ((a, oe3) :: (X.pn ++ pins))) S3 hg hm hv q hnn hdbg
    have LT : PySem.W.Looks (model X.prog X.w) h3 (typeOf (.ref a)) cls := fun A Q E s k q => wpAny_typeOf_ref (k _ _ he3) (by rw [hz3.1]; exact q)
    have go : ∀ {hds' : List ExceptHandler} {l' : List Cls1}, HdsA X hds' l' → wManyA X.K Wout D l' cls d σ' H' →
        wpAny (model X.prog X.w) X.A (handleBy (.ref a) X.env hds') (SP X pins D) X.xe { s' with heap := h3 } := by
      intro hds' l' hk
      induction hk with
      | nil =>
        intro w
        refine wpAny_handleBy_nil ?_
        obtain ⟨k1, k2, k3, oe, vs, T, oT, ts', he, hz, hd, h1, hr⟩ := id fl3
        unfold PySem.passOn
        refine wpAny_bind (wpAny_field he hd h1 ?_)
        rw [if_neg (show ¬ ((Value.ref T == Value.none) = true) from by simp)]
        have fin : wpAny (model X.prog X.w) X.A (setFlight (.ref a) X.env.frame) (fun _ s4 => wpAny (model X.prog X.w) X.A (throw (.ref a) : Sem Flow) (SP X pins D) X.xe s4) X.xe { s' with heap := h3 } := by
          rw [hf]
          refine HandSPX.setFlight_upZ fl3 fun h4 hh4 up4 => wpAny_throw (tk _ _ ?_)
          exact ⟨a, B, sI, pins, σ', H', cls, d, rfl, J, nb, (up.trans up3).trans up4, .inr (.inr (by rw [hs]; exact hh4)), na, os, ag, w⟩
        first
          | exact wpAny_bind (wpAny_pure (wpAny_bind fin))
          | exact wpAny_bind fin
      | @cons x c ts b₀ suite np pos' hds2 l2 hc hsu r ih =>
        intro w
        obtain ⟨b, hb1, hyes, hno⟩ := w
        refine wpAny_handleBy_cons (codeAny_handlers_test ?_) (by intro q; cases q)
        have LM := PySem.W.exm_one (M := model X.prog X.w) (J3.kIn) LT hb1
        refine tst hc (LM.here ?_)
        cases b with
        | true =>
          refine codeAny_handlers_suite ?_
          refine HandSPX.lands_againZ fl3 fun h4 fl4 up4 => ?_
          have J4 : Inv X pins σ' H' { s' with heap := h4 } := J.landed nb fl4.1 ((up.trans up3).trans up4) os ag
          obtain ⟨oe4, vs4, he4, hz4, hd4⟩ := fl4.there
          have S4 := J4.suite he4 hd4 na nL nF
          refine wpAny_mono ((hsu a oe4 cls d (X.pn ++ pins) hz4 ⟨_, hd4⟩).run [] _ _ H' _ S4 (hyes rfl a na)) (fun f s6 hsp => ?_) (fun _ _ z => False.elim z)
          cases f with
          | next =>
            obtain ⟨σ6, H6, S6, q6⟩ := hsp
            exact ⟨_, _, S6.unsuite ok, q6⟩
          | brk =>
            obtain ⟨σ6, H6, S6, q6⟩ := hsp
            exact ⟨_, _, S6.unsuite ok, q6⟩
          | cont =>
            obtain ⟨σ6, H6, S6, q6⟩ := hsp
            exact ⟨_, _, S6.unsuite ok, q6⟩
          | ret u =>
            obtain ⟨v6, σ6, H6, S6, r6, q6⟩ := hsp
            exact ⟨_, _, _, S6.unsuite ok, r6, q6⟩
        | false =>
          show wpAny _ X.A (handleBy (.ref a) X.env hds2) _ _ _
          exact ih (hno rfl)
      | @consA x n c i ts b₀ suite np pos' hds2 l2 hc hi hln hsu r ih =>
        intro w
        obtain ⟨b, hb1, hyes, hno⟩ := w
        have hloc : Loc X.env.scope n := .inl hln
        refine wpAny_handleBy_cons (codeAny_handlers_test ?_) (by intro q; cases q)
        have LM := PySem.W.exm_one (M := model X.prog X.w) (J3.kIn) LT hb1
        refine tst hc (LM.here ?_)
        cases b with
        | true =>
          refine codeAny_handlers_suite_as ?_
          refine HandSPX.lands_againZ fl3 fun h4 fl4 up4 => ?_
          have J4 : Inv X pins σ' H' { s' with heap := h4 } := J.landed nb fl4.1 ((up.trans up3).trans up4) os ag
          obtain ⟨oe4, vs4, he4, hz4, hd4⟩ := fl4.there
          have S4 := J4.suite he4 hd4 na nL nF
          refine store_ok (X := X.suite a ((a, oe4) :: (X.pn ++ pins))) (v := .ref a) S4 hN hi hloc rfl (fun s5 S5 => ?_) (.inr hln)
          refine wpAny_mono ((hsu a oe4 cls d (X.pn ++ pins) hz4 ⟨_, hd4⟩).run [] s5 _ H' _ S5 (hyes rfl a na)) (fun f s6 hsp => ?_) (fun _ _ z => False.elim z)
          have end_ : ∀ {σ6 : L2.St} {H6 : Hp} {Q : Shared → Prop}, Inv (X.suite a ((a, oe4) :: (X.pn ++ pins))) [] σ6 H6 s6 → (∀ s7, Inv X pins (σ6.set i none) H6 s7 → Q s7) →
              wpAny (model X.prog X.w) X.A (do bindName X.env n .none; unbindBehindTheSuite X.env n pos') (fun _ s7 => Q s7) X.xe s6 := fun {σ6 H6 Q} S6 hq => gone_ok (S6.unsuite ok) hN hi hln hq
          cases f with
          | next =>
            obtain ⟨σ6, H6, S6, q6⟩ := hsp
            exact end_ S6 fun s7 J7 => ⟨_, _, J7, q6⟩
          | brk =>
            obtain ⟨σ6, H6, S6, q6⟩ := hsp
            exact end_ S6 fun s7 J7 => ⟨_, _, J7, q6⟩
          | cont =>
            obtain ⟨σ6, H6, S6, q6⟩ := hsp
            exact end_ S6 fun s7 J7 => ⟨_, _, J7, q6⟩
          | ret u =>
            obtain ⟨v6, σ6, H6, S6, r6, q6⟩ := hsp
            exact end_ S6 fun s7 J7 => ⟨_, _, _, J7, r6, q6⟩
        | false =>
          show wpAny _ X.A (handleBy (.ref a) X.env hds2) _ _ _
          exact ih (hno rfl)
    exact go hh w
  · cases f with
    | next =>
      obtain ⟨σ', H', J', q⟩ := hsp
      exact wpAny_execs_nil ⟨σ', H', J'.ofTry ok, q⟩
    | brk =>
      obtain ⟨σ', H', J', q⟩ := hsp
      exact ⟨σ', H', J'.ofTry ok, q⟩
    | cont =>
      obtain ⟨σ', H', J', q⟩ := hsp
      exact ⟨σ', H', J'.ofTry ok, q⟩
    | ret u =>
      obtain ⟨v, σ', H', J', r, q⟩ := hsp
      exact ⟨v, σ', H', J'.ofTry ok, r, q⟩
/-! ### o.m(e, ..) with a wish by the slots, defaults, keywords -/
variable {CX : CXT} {k : Nat} {f C : Addr} {fd : FuncData} {ps ks : List Str} {sp : Sp} {dvs : List V} {ds : List Value} {E : L2.St → XK} {x m : Str} {p apos : Pos} {e o : Expr} {es : List Expr} {kws : List Keyword} {ta : TE} {t tk : TA}
def tMethS (C : Addr) (m : Str) (sp : Sp) (dvs : List V) (E : L2.St → XK) (to : TE) (ta : TA) : TE := fun σ H Q => to σ H fun x H1 => ∃ a dx fs, x = .ref a ∧ H1 a = some (.ins C dx fs) ∧ fs.lookup m = none ∧ ta σ H1 fun vs H2 => sp (.ref a :: (vs ++ dvs)) H2 Q (E σ)
theorem pe_methSD {pl : Sem Bool} (he : PE X o ta) (c : Cls X.K C) (hm : Meth X.K C m f) (F : FnOk X.prog X.w X.K X.mg X.base CX k f fd ps sp) (hr : Room k X.A) (hb : Binds X.K fd ps ds) (hd : Vals dvs ds) (hx : ∀ σ, PassesAt CX X σ (E σ)) (ha : PA X (e :: es) t)
    (hst : starEach (e :: es) X.env = (false, eval e X.env) :: starEach es X.env := by rfl) (hpl : (backTo pos (starEach es X.env)).any (·.1) = false := by rfl)
    (ht : eval (.Call (.Attribute o m apos) (e :: es) [] pos) X.env = (do
      let ov ← eval o X.env
      standAt apos.atName
      let (f, first) ← holding [ov] (getMethod ov m pl)
      callWith pos f first (backTo pos (starEach (e :: es) X.env)) (backToKw pos (keywordEach [] X.env))) := by rfl) :
    PE X (.Call (.Attribute o m apos) (e :: es) [] pos) (tMethS C m sp dvs E ta t) := by
  refine ⟨fun pins s σ H Q I h => ?_⟩
  refine PySem.W.methodCall_KW (pl := pl) (thn (he.run pins s σ H _ I h) fun u s1 ⟨x, H1, I1, rx, a, dx, fs, ex, ea, l, q⟩ => ?_) ht
  subst ex
  obtain rfl : u = Value.ref a := rx
  refine getmeth_ok I1 ea c hm l ?_
  refine PySem.W.callWith_K (first := [.ref a]) (h₀ := X.base) I.ok.mod.kin hm.kp (thn (ha.run pos pins s1 σ H1 _ I1 q) fun us s2 ⟨vs, H2, I2, r, q2⟩ => ⟨I2.kIn, ?_⟩) hst hpl
  exact run_fnSD (us := .ref a :: us) (vs := .ref a :: vs) F hr hb hd (hx σ) I2 (.cons rfl r) q2
theorem pe_methSD0 {pl : Sem Bool} (he : PE X o ta) (c : Cls X.K C) (hm : Meth X.K C m f) (F : FnOk X.prog X.w X.K X.mg X.base CX k f fd ps sp) (hr : Room k X.A) (hb : Binds X.K fd ps ds) (hd : Vals dvs ds) (hx : ∀ σ, PassesAt CX X σ (E σ))
    (ht : eval (.Call (.Attribute o m apos) [] [] pos) X.env = (do
      let ov ← eval o X.env
      standAt apos.atName
      let (f, first) ← holding [ov] (getMethod ov m pl)
      callWith pos f first (backTo pos (starEach [] X.env)) (backToKw pos (keywordEach [] X.env))) := by rfl) :
    PE X (.Call (.Attribute o m apos) [] [] pos) (tMethS C m sp dvs E ta tNil) := by
  refine ⟨fun pins s σ H Q I h => ?_⟩
  refine PySem.W.methodCall_KW (pl := pl) (thn (he.run pins s σ H _ I h) fun u s1 ⟨x, H1, I1, rx, a, dx, fs, ex, ea, l, q⟩ => ?_) ht
  subst ex
  obtain rfl : u = Value.ref a := rx
  refine getmeth_ok I1 ea c hm l ?_
  exact PySem.W.callWith_K0 (first := [.ref a]) I1.kIn hm.kp (run_fnSD (us := [.ref a]) (vs := [.ref a]) F hr hb hd (hx σ) I1 (.cons rfl .nil) q)
end
/-! ### defs under which repr is asked: no guard is up -/
section
open PySem PySem.Spec PyProof.Rows
structure FnG (P : Program) (w : World) (K : PySem.W.Frag) (mg : Str → Option Value) (base : Heap) (CX : CXT) (k : Nat) (f : Addr) (fd : FuncData) (ps : List Str) (sp : Sp) : Prop where
  len : ∀ vs H Q E, sp vs H Q E → vs.length = ps.length
  run : ∀ (A : Around) (outer : List Env) (s : Shared) (H : Hp) (args : Args) (us : List Value) (vs : List V) (Q : VK) (E : XK), Room k A → A.guards = some [] → Env0 P w K mg base A outer s H → BindsTo s fd args (ps.zip us) → Vals vs us → sp vs H Q E →
    codeAny (model P w) A (.call (.ref f) args) (CR CX outer P w H s Q E) s
theorem FnG.of {P : Program} {w : World} {K : PySem.W.Frag} {mg : Str → Option Value} {base : Heap} {CX : CXT} {k : Nat} {f : Addr} {fd : FuncData} {ps : List Str} {sp : Sp} (F : FnOk P w K mg base CX k f fd ps sp) : FnG P w K mg base CX k f fd ps sp :=
  ⟨F.len, fun A outer s H args us vs Q E hr _ => F.run A outer s H args us vs Q E hr⟩
theorem FnG.mono {P : Program} {w : World} {K : PySem.W.Frag} {mg : Str → Option Value} {base : Heap} {CX : CXT} {j k : Nat} {f : Addr} {fd : FuncData} {ps : List Str} {sp : Sp} (F : FnG P w K mg base CX j f fd ps sp) (h : j ≤ k) : FnG P w K mg base CX k f fd ps sp :=
  ⟨F.len, fun A outer s H args us vs Q E hr => F.run A outer s H args us vs Q E (hr.mono h)⟩
theorem fn_ofG {CX : CXT} {P : Program} {w : World} {K : PySem.W.Frag} {mg : Str → Option Value} {base : Heap} {k : Nat} {f : Addr} {name qual : Str} {params : Arguments} {body : List Stmt} {scope : Scope} {dV kV doc pm cdv ct oc : Value} {an od : Option Addr}
    {osl : Array (Option Value)} {N ps : List Str} {sp : Sp} (lk : K.lookup f = some ⟨oc, od, .func (PySem.W.fnOf name qual params body scope dV kV doc pm an cdv ct), osl⟩) (hcd : PySem.W.codeIn K cdv qual = true) (S : FnScope N ps scope)
    (len : ∀ vs H Q E, sp vs H Q E → vs.length = ps.length)
    (hbody : ∀ (A : Around) (outer : List Env) (s : Shared) (H : Hp) (vs : List V) (Q : VK) (E : XK), Room k (A.deeper (envOfC qual scope s.heap.objs.size f cdv)) → A.guards = some [] → sp vs H Q E →
      ∃ t, PSs (cxOf CX P w K mg base N qual scope f cdv A outer s H E) body t ∧ t { nx := fun _ H' => Q .non H', rt := Q } (start N vs) H) :
    FnG P w K mg base CX (k + 1) f (PySem.W.fnOf name qual params body scope dV kV doc pm an cdv ct) ps sp := by
  refine ⟨len, fun A outer s H args us vs Q E hr hg e0 hb r hsp => ?_⟩
  have hl := len _ _ _ _ hsp
  have KX : K.In s.heap := e0.mod.kin.keeps fun b o e => (e0.bs b o e).1
  have lim : s.heap.NoLimit := e0.mod.nolimit.keeps fun b o e => (e0.bs b o e).1
  have hkind : ∀ y ∈ ps.zip us, scope.names.lookup y.1 = some .local ∨ (scope.names.lookup y.1 = some .cell ∧ ((cellsFrom (s.heap.objs.size + 1) scope.names []).lookup y.1).isSome = true) := fun ⟨n, v⟩ hy => by
    rcases S.par n (List.of_mem_zip hy).1 with q | q
    · exact .inl q
    · exact .inr ⟨q, PySem.W.cellsFrom_some _ _ _ (.inl q)⟩
  refine codeAny_call_function hr.depth (KX _ _ lk) rfl S.co S.gen rfl (PySem.W.codeRec_of KX hcd) (hb _ _ _ _ ?_)
  refine wpAny_newFunctionEnv_cells S.kind hkind fun env he s1 x => ?_
  subst he
  refine ⟨lim.keeps x.toInCall.keep, codeAny_func ?_⟩
  obtain ⟨t, ht, hq⟩ := hbody A outer s H vs Q E (hr.deeper _) hg hsp
  have I : Inv (cxOf CX P w K mg base N qual scope f cdv A outer s H E) [] (start N vs) H s1 := inv_start S hr.hd e0 hl r x
  refine wpAny_mono (ht.run [] s1 (start N vs) H _ I hq) (fun fl s' hs => ?_) fun e s' hs => hs
  have fin : ∀ {σ' : L2.St} {H' : Hp} {v : V} {u : Value}, Inv (cxOf CX P w K mg base N qual scope f cdv A outer s H E) [] σ' H' s' → RelV v u → Q v H' → CE outer P w H s Q u s' :=
    fun {σ' H' v u} J rv q => ⟨v, H', J.os, J.bare, J.base, J.hok, rv, q⟩
  cases fl with
  | ret u =>
    obtain ⟨v, σ', H', J, rv, q⟩ := hs
    exact fin J rv q
  | next =>
    obtain ⟨σ', H', J, q⟩ := hs
    exact fin (v := V.non) (u := Value.none) J rfl q
  | brk =>
    obtain ⟨_, _, _, q⟩ := hs
    exact False.elim q
  | cont =>
    obtain ⟨_, _, _, q⟩ := hs
    exact False.elim q
theorem okG {P : Program} {w : World} {K : PySem.W.Frag} {mg : Str → Option Value} {base : Heap} {x qual : Str} {st : Stmt} {f : Addr} {fd : FuncData} {N ps : List Str} {k : Nat} {sp : Sp} (F : L2.Fun K x qual st f fd) (S : FnScope N ps (defScope st)) (len : ∀ vs H Q E, sp vs H Q E → vs.length = ps.length)
    (hbody : ∀ (cdv : Value) (A : Around) (outer : List Env) (s : Shared) (H : Hp) (vs : List V) (Q : VK) (E : XK), Room k (A.deeper (envOfC qual (defScope st) s.heap.objs.size f cdv)) → A.guards = some [] → sp vs H Q E →
      ∃ t, PSs (cxOf CX0 P w K mg base N qual (defScope st) f cdv A outer s H E).nox (defBody st) t ∧ t { nx := fun _ H' => Q .non H', rt := Q } (start N vs) H) : FnG P w K mg base CX0 (k + 1) f fd ps sp := by
  obtain ⟨oc, od, kV, doc, pm, an, cdv, ct, osl, rfl, lk, hcd⟩ := F.ex
  refine fn_ofG lk hcd S len fun A outer s H vs Q E hr hg hsp => ?_
  obtain ⟨t, h, q⟩ := hbody cdv A outer s H vs Q E hr hg hsp
  exact ⟨t, h.nox, q⟩
theorem okGX {P : Program} {w : World} {K : PySem.W.Frag} {mg : Str → Option Value} {base : Heap} {x qual : Str} {st : Stmt} {f : Addr} {fd : FuncData} {N ps : List Str} {k : Nat} {sp : Sp} (F : L2.Fun K x qual st f fd) (S : FnScope N ps (defScope st)) (len : ∀ vs H Q E, sp vs H Q E → vs.length = ps.length)
    (hbody : ∀ (cdv : Value) (A : Around) (outer : List Env) (s : Shared) (H : Hp) (vs : List V) (Q : VK) (E : XK), Room k (A.deeper (envOfC qual (defScope st) s.heap.objs.size f cdv)) → A.guards = some [] → sp vs H Q E →
      ∃ t, PSs (cxOf (L2.CX P w) P w K mg base N qual (defScope st) f cdv A outer s H E) (defBody st) t ∧ t { nx := fun _ H' => Q .non H', rt := Q } (start N vs) H) : FnG P w K mg base (L2.CX P w) (k + 1) f fd ps sp := by
  obtain ⟨oc, od, kV, doc, pm, an, cdv, ct, osl, rfl, lk, hcd⟩ := F.ex
  exact fn_ofG lk hcd S len fun A outer s H vs Q E hr hg hsp => hbody cdv A outer s H vs Q E hr hg hsp
section
variable {X : Cx} {CX : CXT} {k : Nat} {f C : Addr} {fd : FuncData} {ps : List Str} {sp : Sp} {dvs : List V} {ds : List Value} {E : XK} {x m : Str} {p pos apos : Pos} {e o : Expr} {es : List Expr} {ta : TE} {t : TA}
theorem run_fnG {pins : List (Addr × Obj)} {σ : L2.St} {H : Hp} {s : Shared} {Q : VK} {us : List Value} {vs : List V} (F : FnG X.prog X.w X.K X.mg X.base CX k f fd ps sp) (hr : Room k X.A) (hgd : X.A.guards = some []) (hb : Binds X.K fd ps ds) (hd : Vals dvs ds) (hx : Passes CX X E)
    (I : Inv X pins σ H s) (r : Vals vs us) (h : sp (vs ++ dvs) H Q E) : wpAny (model X.prog X.w) X.A (call (.ref f) us) (EP X pins σ Q) X.xe s := by
  have r2 : Vals (vs ++ dvs) (us ++ ds) := r.append hd
  have hl : (us ++ ds).length = ps.length := by rw [← r2.length]; exact F.len _ _ _ _ h
  refine wpAny_call (codeAny_mono (F.run X.A X.stack s H ⟨us, []⟩ (us ++ ds) (vs ++ dvs) Q E hr hgd I.env0 (hb s us I.kIn hl) r2 h) fun r s' hq => ?_)
  cases r with
  | error e => exact hx pins σ H s e s' I hq
  | ok fl =>
    cases fl with
    | ret u => exact I.after hq
    | next => exact False.elim hq
    | brk => exact False.elim hq
    | cont => exact False.elim hq
theorem pe_callG (F : FnG X.prog X.w X.K X.mg X.base CX k f fd ps sp) (hr : Room k X.A) (hgd : X.A.guards = some []) (hg : Gl X x) (hm : X.mg x = some (.ref f)) (hk : PySem.W.keepIn X.K (.ref f) = true) (hb : Binds X.K fd ps ds) (hd : Vals dvs ds) (hx : Passes CX X E)
    (ha : PA X (e :: es) t) (hdb : (x == ("__debug__" : Str)) = false := by decide) (he : starEach (e :: es) X.env = (false, eval e X.env) :: starEach es X.env := by rfl) (hpl : (backTo pos (starEach es X.env)).any (·.1) = false := by rfl) :
    PE X (.Call (.Name x p) (e :: es) [] pos) (tCall sp dvs E t) := by
  refine ⟨fun pins s σ H Q I h => ?_⟩
  refine wpAny_Call_Name_kw (ld_glob I hg hm ?_ hdb)
  refine PySem.W.callWith_K (h₀ := X.base) I.ok.mod.kin hk (thn (ha.run pos pins s σ H _ I h) fun us s1 ⟨vs, H1, I1, r, q⟩ => ⟨I1.kIn, ?_⟩) he hpl
  exact run_fnG F hr hgd hb hd hx I1 r q
/-- repr of data -/
theorem call_reprD (hgd : X.A.guards = some []) (hu : X.A.units + 64 < cLine) : CallR X (.builtin "repr") (fun xs H Q => ∃ (x : V) (dt : PyData), xs = [x] ∧ Dp X.K H x dt ∧ dt.showable = true ∧ dt.hasDict = false ∧ dt.depth ≤ 60 ∧ dt.shown.length ≤ sizeLine ∧ Q (.str dt.shown) H) := by
  intro pins s σ H xs us Q I r h
  obtain ⟨x, dt, rfl, hD, h1, h2, h3, h4, q⟩ := h
  obtain ⟨u, rfl, ru⟩ := vals1 r
  obtain ⟨as, hr⟩ := Dp.reads I dt x u hD ru
  cases hD with
  | non =>
    cases (show u = Value.none from ru)
    exact PySem.P.repr_of_none ⟨.str _, H, I.tok _, ⟨_, rfl⟩, q⟩
  | bl b =>
    cases (show u = Value.bool b from ru)
    exact PySem.P.repr_of_bool ⟨.str _, H, I.tok _, ⟨_, rfl⟩, q⟩
  | int i =>
    obtain ⟨t, rfl⟩ := ru
    exact PySem.P.repr_of_int (of_decide_eq_true h1) ⟨.str _, H, I.tok _, ⟨_, rfl⟩, q⟩
  | str z =>
    obtain ⟨t, rfl⟩ := ru
    exact PySem.P.repr_of_str ⟨.str _, H, I.tok _, ⟨_, rfl⟩, q⟩ h4
  | lst hl ha =>
    cases ru
    refine repr_of_reads' hr h1 (fun z => by rw [h2] at z; cases z) hgd (by omega) (fun _ _ e => e) (fun h' u tk hk => ?_) h4
    exact ⟨.str _, H, (I.kept (t' := tk) hk), ⟨_, rfl⟩, q⟩
  | tup hl ha =>
    cases ru
    refine repr_of_reads' hr h1 (fun z => by rw [h2] at z; cases z) hgd (by omega) (fun _ _ e => e) (fun h' u tk hk => ?_) h4
    exact ⟨.str _, H, (I.kept (t' := tk) hk), ⟨_, rfl⟩, q⟩
end
end
/-! ### the law is called: no guard is up -/
section
open PySem PySem.Spec PyProof.Rows L2
theorem law_callG {P : Program} {w : World} {K : PySem.W.Frag} {mg mb : Str → Option Value} {CX : CXT} {k : Nat} {fa a : Addr} {fd : FuncData} {x : Str} {sp : Sp} {s₁ : Shared} {vs : List Value} {ns : List Int}
    (KX : K.In s₁.heap) (hns : s₁.heap.Ns mainGlobals mg) (hb : s₁.heap.Ns builtinsNs mb) (hbb : ∀ x : Str, x ≠ "__name__" → mb x = bootBuiltins x) (hlim : s₁.heap.NoLimit) (hg : s₁.gens = #[])
    (ha : s₁.heap.get? a = some { cls := .type "list", data := .seq vs.toArray }) (hi : IntsAre vs ns) (hl : ns.length ≤ sizeLine) (hr : Room k callerA)
    (F : ∀ base : Heap, K.In base → base.Ns mainGlobals mg → FnG P w K mg base CX k fa fd [x] sp) (hbind : ∀ (s : Shared) (u : Value), BindsTo s fd ⟨[u], []⟩ [(x, u)])
    (hsp : ∀ H : Hp, Only H → SqL K H a (ns.map V.int) → sp [.ref a] H (fun v _ => v = .bl true) fun _ _ _ => False)
    (hCX : ∀ H e s', CX [] H s₁ (fun _ _ _ => False) e s' → False) :
    codeAny (model P w) callerA (.call (.ref fa) ⟨[.ref a], []⟩) (fun r s' => r = .ok (.ret (.bool true)) ∧ OldK s₁.heap s'.heap ∧ s'.os = s₁.os ∧ AllBare s'.gens) s₁ := by
  have rv := vals_ints hi
  have lenV := hi.length
  -- from an abstract heap in which nothing but the script may be tracked
  have core : ∀ H : Hp, Only H → SqL K H a (ns.map V.int) → HOk P w H s₁.heap → (∀ b, H b ≠ none → b = a) → (H a ≠ none → K.lookup a = none) →
      codeAny (model P w) callerA (.call (.ref fa) ⟨[.ref a], []⟩) (fun r s' => r = .ok (.ret (.bool true)) ∧ OldK s₁.heap s'.heap ∧ s'.os = s₁.os ∧ AllBare s'.gens) s₁ := by
    intro H hO hS hok hA hK
    have base_of : ∀ {b : Addr} {o : Obj}, s₁.heap.get? b = some o → H b = none → (hidT s₁.heap H).get? b = some o := fun e n => hidT_get e n
    have noA : ∀ {b : Addr} {o : Obj} {es : Array DictEntry} {ep : Nat}, s₁.heap.get? b = some o → o.data = .dict es ep → H b = none := fun {b o es ep} e d => by
      cases q : H b with
      | none => rfl
      | some u =>
        have e' : b = a := hA b (by rw [q]; simp)
        subst e'
        rw [ha] at e; cases e
        have d' : Data.seq vs.toArray _ = Data.dict es ep := d
        cases d'
    have nsK : ∀ {b : Addr} {m : Str → Option Value}, s₁.heap.Ns b m → (hidT s₁.heap H).Ns b m := fun {b m} ⟨o, es, ep, e, d, r⟩ => ⟨o, es, ep, base_of e (noA e d), d, r⟩
    have hKb : K.In (hidT s₁.heap H) := fun b o e => base_of (KX b o e) (by
      cases q : H b with
      | none => rfl
      | some u =>
        have e' : b = a := hA b (by rw [q]; simp)
        subst e'
        rw [hK (by rw [q]; simp)] at e; cases e)
    have hM : Mod K mg (hidT s₁.heap H) := ⟨hKb, nsK hns, ⟨mb, nsK hb, hbb⟩, let ⟨mc, h1, h2⟩ := hlim; ⟨mc, nsK h1, h2⟩⟩
    have e0 : Env0 P w K mg (hidT s₁.heap H) callerA [] s₁ H := ⟨rfl, hM, fun b o e => of_hidT e, Nat.le_of_eq (hidT_size _ _), trivial, fun b hb => absurd (show b ∈ ([] : List Addr) from hb) (by simp), hok, .of_eq hg⟩
    refine codeAny_mono ((F _ hKb (nsK hns)).run callerA [] s₁ H ⟨[.ref a], []⟩ [.ref a] [.ref a] _ _ hr rfl e0 (hbind s₁ (.ref a)) (.cons rfl .nil) (hsp H hO hS)) fun r s' h => ?_
    cases r with
    | error e => exact (hCX H e s' h).elim
    | ok fl =>
      cases fl with
      | next => exact False.elim h
      | brk => exact False.elim h
      | cont => exact False.elim h
      | ret u =>
        obtain ⟨v, H', os, bare, un, hok', r', q⟩ := h
        have q' : v = .bl true := q
        subst q'
        obtain rfl : u = Value.bool true := r'
        refine ⟨rfl, OldK.of_keep fun b o e => ?_, os, bare⟩
        cases q : H b with
        | none => exact un.keep b o e q (by intro z; exact absurd (show b ∈ ([] : List Addr) from z) (by simp)) (by simp)
        | some u =>
          rcases hO b with z | ⟨ob, xs, z⟩
          · rw [q] at z; cases z
          · have z2 := un.frzs b ob _ z
            obtain ⟨e1, _⟩ := hok b _ z
            obtain ⟨e2, _⟩ := hok' b _ z2
            rw [e] at e1; cases e1
            exact e2
  cases hk : K.lookup a with
  | some o =>
    -- the script is one of the module's own objects
    have e := KX a o hk
    rw [ha] at e
    cases e
    refine core (fun _ => none) (fun _ => .inl rfl) (.inr ⟨_, vs.toArray, _, hk, rfl, rfl, rfl, by rw [List.size_toArray, lenV]; exact hl, by simpa using rv⟩) (fun b u z => by have z' : (none : Option HO) = some u := z; cases z') (fun b z => absurd rfl z) fun z => absurd rfl z
  | none =>
    refine core (fun b => if b = a then some (.frz { cls := .type "list", data := .seq vs.toArray } (.lst (ns.map V.int))) else none) (fun b => ?_) (.inl (.inr ⟨{ cls := .type "list", data := .seq vs.toArray }, if_pos rfl⟩)) (fun b u z => ?_) (fun b z => ?_) fun _ => hk
    · by_cases hb : b = a
      · exact .inr ⟨_, _, if_pos hb⟩
      · exact .inl (if_neg hb)
    · by_cases hb : b = a
      · have z' := (if_pos hb).symm.trans z
        cases z'
        subst hb
        exact ⟨ha, by rw [List.length_map]; exact hl, vs, _, rv, ha⟩
      · have z' := (if_neg hb).symm.trans z
        cases z'
    · by_cases hb : b = a
      · exact hb
      · exact absurd (if_neg hb) z
theorem walk_ofBG {l : PySem.W.OpenLaw} {n k : Nat} {q : Program} {loose : List Str} {XP : (Str → Option Value) → Heap → Prop} {YP : World → Heap → Prop} {d : DefRec} {K : Params → PySem.W.Frag} {CX : World → CXT} {sp : World → Sp} {x : Str}
    (hn : l.most = some n) (hn2 : n ≤ sizeLine) (hdf : d.params.defaults = []) (hr : Room k callerA)
    (hY : ∀ (w : World) (h : Heap), YP w h → (K w.params).In h)
    (F : ∀ (w : World) (mg : Str → Option Value) (fa : Addr) (h : Heap), (K w.params).In h → h.Ns mainGlobals mg → mg d.name = some (.ref fa) →
      ∃ fd : FuncData, (∀ (s : Shared) (u : Value), BindsTo s fd ⟨[u], []⟩ [(x, u)]) ∧
        ∀ base : Heap, (K w.params).In base → base.Ns mainGlobals mg → FnG l.prog w (K w.params) mg base (CX w) k fa fd [x] (sp w))
    (hsp : ∀ (w : World) (H : Hp) (a : Addr) (ns : List Int), ns.length ≤ n → (∀ z ∈ ns, Builtin.Int.intBits z ≤ 1048576) → Only H → SqL (K w.params) H a (ns.map V.int) → sp w [.ref a] H (fun v _ => v = .bl true) fun _ _ _ => False)
    (hCX : ∀ (w : World) (H : Hp) (s : Shared) (e : Value) (s' : Shared), CX w [] H s (fun _ _ _ => False) e s' → False) :
    PySem.W.WalkO q loose XP YP l.row.toRowW d [] (fun f vs => PySem.call f vs) := by
  refine Att.attach_callB hn hdf fun w s₀ s₁ mg mb fa o pm cd doc a vs ns G Y ho hd hcd hmg hobj hints hlen hbits hg => ?_
  have KX := hY w _ Y
  obtain ⟨fd, hb, hF⟩ := F w mg fa _ KX G.T.g hmg
  exact law_callG KX G.T.g G.T.b G.T.builtins G.T.nolimit hg hobj hints (Nat.le_trans hlen hn2) hr hF hb (fun H hO hS => hsp w H a ns hlen hbits hO hS) fun H e s' => hCX w H s₁ e s'
end
/-! ### what is never reached -/
section
variable {X : Cx}
theorem ps_no {st : Stmt} : PS X st (fun _ _ _ => False) := ⟨fun _ _ _ _ _ _ h => h.elim⟩
theorem xfc {P : Program} {K : PySem.W.Frag} {C fI : Addr} {st : Stmt} {q : Str} {ps : List Str} {fs : List (Str × Sum Nat Str)} (T : ErrC P K C fI st q ps fs) : XfC K C := ⟨T.ga, T.gg, T.exC, T.hdC⟩
end
theorem for_nil {K : PySem.W.Frag} {a : Addr} {g : TG} {tb : TS} {D : Ends} {σ : L2.St} {H : Hp} (hl : SqL K H a []) (hd : D.nx σ H) :
    ∃ W : Nat → Nat → L2.St → Hp → Prop, (∃ m, W 0 m σ H) ∧ ∀ i m σ H, W i m σ H →
      ((Itl K a).stop i H ∧ D.nx σ H) ∨ ((Itl K a).go i H ∧ ∃ N : L2.St → Hp → Prop, (∀ σ' H', N σ' H' → ∃ m', m' < m ∧ W (i + 1) m' σ' H') ∧ ∀ x H', (Itl K a).yld i H x H' → g x σ H' fun σ2 H2 => tb { D with nx := N, ct := N, bk := D.nx } σ2 H2) :=
  for_list (xs := []) (fun _ σ' H' => σ' = σ ∧ H' = H) ⟨rfl, rfl⟩ (fun i σ' H' _ p => p.2 ▸ hl) (fun i x σ' H' e _ => by simp at e) (fun σ' H' p => by rw [p.1, p.2]; exact hd)
/-! ### o.m(e, .., k = v, ..), with a wish by the slots -/
section
open PySem PySem.Spec PyProof.Rows
variable {X : Cx} {CX : CXT} {k n : Nat} {f C : Addr} {fd : FuncData} {ps ks : List Str} {sp : Sp} {E : L2.St → XK} {m : Str} {pos apos : Pos} {e o : Expr} {es : List Expr} {kws : List Keyword} {ta : TE} {t tk : TA} {g : List Value → List Value → List Value} {gV : List V → List V → List V}
def tMethK (C : Addr) (m : Str) (n j : Nat) (sp : Sp) (gV : List V → List V → List V) (E : L2.St → XK) (to : TE) (ta tk : TA) : TE := fun σ H Q => to σ H fun x H1 => ∃ a dx fs, x = .ref a ∧ H1 a = some (.ins C dx fs) ∧ fs.lookup m = none ∧ ta σ H1 fun vs H2 => tk σ H2 fun zs H3 => vs.length = n ∧ zs.length = j ∧ sp (gV (.ref a :: vs) zs) H3 Q (E σ)
theorem run_kw {pins : List (Addr × Obj)} {σ : L2.St} {H : Hp} {s : Shared} {Q : VK} {us ws : List Value} {vs zs : List V} (F : FnOk X.prog X.w X.K X.mg X.base CX k f fd ps sp) (hr : Room k X.A) (hb : KBn X.K fd ps n ks g gV) (hx : PassesAt CX X σ (E σ))
    (I : Inv X pins σ H s) (r : Vals vs us) (rz : Vals zs ws) (l1 : vs.length = n) (l2 : zs.length = ks.length) (h : sp (gV vs zs) H Q (E σ)) : wpAny (model X.prog X.w) X.A (call (.ref f) us (ks.zip ws)) (EP X pins σ Q) X.xe s := by
  have bt := hb.to s us ws I.kIn (r.length.symm.trans l1) (rz.length.symm.trans l2)
  refine wpAny_call (codeAny_mono (F.run X.A X.stack s H ⟨us, ks.zip ws⟩ (g us ws) (gV vs zs) Q (E σ) hr I.env0 bt (hb.rel r rz) h) fun q s' hq => ?_)
  match q, hq with
  | .error e, hq => exact hx pins H s e s' I hq
  | .ok (.ret u), hq => exact I.after hq
  | .ok .next, hq => exact hq.elim
  | .ok .brk, hq => exact hq.elim
  | .ok .cont, hq => exact hq.elim
theorem pe_methK {pl : Sem Bool} (ho : PE X o ta) (c : Cls X.K C) (hm : Meth X.K C m f) (F : FnOk X.prog X.w X.K X.mg X.base CX k f fd ps sp) (hr : Room k X.A) (hb : KBn X.K fd ps (n + 1) ks g gV) (hx : ∀ σ, PassesAt CX X σ (E σ)) (ha : PA X (e :: es) t) (hkw : PK X kws tk)
    (hall : (backToKw pos (keywordEach kws X.env)).all (·.1.isSome) = true := by rfl) (hks : (backToKw pos (keywordEach kws X.env)).filterMap (·.1) = ks := by rfl)
    (hst : starEach (e :: es) X.env = (false, eval e X.env) :: starEach es X.env := by rfl) (hpl : ((backTo pos (starEach (e :: es) X.env)).any (·.1) || (backToKw pos (keywordEach kws X.env)).any (·.1.isNone)) = false := by rfl)
    (ht : eval (.Call (.Attribute o m apos) (e :: es) kws pos) X.env = (do
      let ov ← eval o X.env
      standAt apos.atName
      let (f, first) ← holding [ov] (getMethod ov m pl)
      callWith pos f first (backTo pos (starEach (e :: es) X.env)) (backToKw pos (keywordEach kws X.env))) := by rfl) :
    PE X (.Call (.Attribute o m apos) (e :: es) kws pos) (tMethK C m n ks.length sp gV E ta t tk) := by
  refine ⟨fun pins s σ H Q I h => ?_⟩
  refine PySem.W.methodCall_KW (pl := pl) (thn (ho.run pins s σ H _ I h) fun u s1 ⟨x, H1, I1, rx, a, dx, fs, ex, ea, l, q⟩ => ?_) ht
  subst ex
  cases (show u = Value.ref a from rx)
  refine getmeth_ok I1 ea c hm l (PySem.W.callWith_KW (first := [.ref a]) (h₀ := X.base) I.ok.mod.kin hm.kp hall (thn (ha.run pos pins s1 σ H1 _ I1 q) fun us s2 ⟨vs, H2, I2, r, q2⟩ => ?_) hpl hst)
  refine thn (hkw.run pos pins s2 σ H2 _ I2 q2) fun ws s3 ⟨zs, H3, I3, rz, l1, l2, q3⟩ => ⟨I3.kIn, ?_⟩
  rw [hks]
  exact run_kw (us := .ref a :: us) (vs := .ref a :: vs) F hr hb (hx σ) I3 (.cons rfl r) rz (congrArg Nat.succ l1) l2 q3
end
/-! ### defs called while an exception is handled: its object stands aside -/
section
open PySem PySem.Spec PyProof.Rows
structure FnP (P : Program) (w : World) (K : PySem.W.Frag) (mg : Str → Option Value) (base : Heap) (CX : CXT) (k : Nat) (f : Addr) (fd : FuncData) (ps : List Str) (sp : Sp) : Prop where
  len : ∀ vs H Q E, sp vs H Q E → vs.length = ps.length
  run : ∀ (A : Around) (outer : List Env) (s : Shared) (H : Hp) (args : Args) (us : List Value) (vs : List V) (Q : VK) (E : XK) (p : Addr × Obj), L2H.RoomH k A → L2H.PinOk outer H s p → Env0 P w K mg base A outer s H → BindsTo s fd args (ps.zip us) → Vals vs us → sp vs H Q E →
    codeAny (model P w) A (.call (.ref f) args) (CR CX outer P w H s Q E) s
theorem fn_ofP {CX : CXT} {P : Program} {w : World} {K : PySem.W.Frag} {mg : Str → Option Value} {base : Heap} {k : Nat} {f : Addr} {name qual : Str} {params : Arguments} {body : List Stmt} {scope : Scope} {dV kV doc pm cdv ct oc : Value} {an od : Option Addr}
    {osl : Array (Option Value)} {N ps : List Str} {sp : Sp} (lk : K.lookup f = some ⟨oc, od, .func (PySem.W.fnOf name qual params body scope dV kV doc pm an cdv ct), osl⟩) (hcd : PySem.W.codeIn K cdv qual = true) (S : FnScope N ps scope)
    (len : ∀ vs H Q E, sp vs H Q E → vs.length = ps.length)
    (hbody : ∀ (A : Around) (outer : List Env) (s : Shared) (H : Hp) (vs : List V) (Q : VK) (E : XK) (p : Addr × Obj), L2H.RoomH k (A.deeper (envOfC qual scope s.heap.objs.size f cdv)) → sp vs H Q E →
      ∃ t, PSs (L2H.cxH CX P w K mg base N qual scope f cdv A outer s H E p) body t ∧ t { nx := fun _ H' => Q .non H', rt := Q } (L2.start N vs) H) :
    FnP P w K mg base CX (k + 1) f (PySem.W.fnOf name qual params body scope dV kV doc pm an cdv ct) ps sp := by
  refine ⟨len, fun A outer s H args us vs Q E p hr hp e0 hb r hsp => ?_⟩
  have kk : ∀ b o, base.get? b = some o → s.heap.get? b = some o := fun b o e => (e0.bs b o e).1
  have KX : K.In s.heap := e0.mod.kin.keeps kk
  have hk2 : ∀ y ∈ ps.zip us, scope.names.lookup y.1 = some .local ∨ (scope.names.lookup y.1 = some .cell ∧ ((cellsFrom (s.heap.objs.size + 1) scope.names []).lookup y.1).isSome = true) := fun y hy =>
    (S.par y.1 (List.of_mem_zip (a := y.1) (b := y.2) hy).1).imp id fun q => ⟨q, PySem.W.cellsFrom_some _ _ _ (.inl q)⟩
  refine codeAny_call_function hr.depth (KX _ _ lk) rfl S.co S.gen rfl (PySem.W.codeRec_of KX hcd) (hb _ _ _ _ (wpAny_newFunctionEnv_cells S.kind hk2 fun env he s1 x => ?_))
  subst he
  refine ⟨(e0.mod.nolimit.keeps kk).keeps x.toInCall.keep, codeAny_func ?_⟩
  obtain ⟨t, ht, hq⟩ := hbody A outer s H vs Q E p (hr.deeper _) hsp
  refine wpAny_mono (ht.run [] s1 _ H _ (L2H.inv_startH S hp e0 (len _ _ _ _ hsp) r x) hq) (fun fl s' hs => ?_) fun e s' hs => hs
  match fl, hs with
  | .ret u, ⟨v, σ', H', J, rv, q⟩ => exact ⟨v, H', J.os, J.bare, J.base, J.hok, rv, q⟩
  | .next, ⟨σ', H', J, q⟩ => exact ⟨.non, H', J.os, J.bare, J.base, J.hok, rfl, q⟩
  | .brk, ⟨_, _, _, q⟩ => exact q.elim
  | .cont, ⟨_, _, _, q⟩ => exact q.elim
theorem okP {P : Program} {w : World} {K : PySem.W.Frag} {mg : Str → Option Value} {base : Heap} {x qual : Str} {st : Stmt} {f : Addr} {fd : FuncData} {N ps : List Str} {k : Nat} {sp : Sp} (F : L2.Fun K x qual st f fd) (S : FnScope N ps (defScope st)) (len : ∀ vs H Q E, sp vs H Q E → vs.length = ps.length)
    (hbody : ∀ (cdv : Value) (A : Around) (outer : List Env) (s : Shared) (H : Hp) (vs : List V) (Q : VK) (E : XK) (p : Addr × Obj), L2H.RoomH k (A.deeper (envOfC qual (defScope st) s.heap.objs.size f cdv)) → sp vs H Q E →
      ∃ t, PSs (L2H.cxH CX0 P w K mg base N qual (defScope st) f cdv A outer s H E p).nox (defBody st) t ∧ t { nx := fun _ H' => Q .non H', rt := Q } (L2.start N vs) H) : FnP P w K mg base CX0 (k + 1) f fd ps sp := by
  obtain ⟨oc, od, kV, doc, pm, an, cdv, ct, osl, rfl, lk, hcd⟩ := F.ex
  refine fn_ofP lk hcd S len fun A outer s H vs Q E p hr hsp => ?_
  obtain ⟨t, h, q⟩ := hbody cdv A outer s H vs Q E p hr hsp
  exact ⟨t, h.nox, q⟩
section
variable {X : Cx} {CX : CXT} {k : Nat} {C p g a dx : Addr} {fs : List (Str × V)} {f : Str} {fd : FuncData} {ps : List Str} {sp : Sp} {dvs : List V} {ds : List Value} {E : XK} {e : Expr} {pos : Pos} {ta : TE}
/-- the exception that is handled stands aside here -/
def Aside (X : Cx) : Prop := ∃ q : Addr × Obj, q ∈ X.pn
theorem Aside.pin {pins : List (Addr × Obj)} {σ : L2.St} {H : Hp} {s : Shared} (h : Aside X) (I : Inv X pins σ H s) : ∃ q, L2H.PinOk X.stack H s q := by
  obtain ⟨q, hq⟩ := h
  obtain ⟨p1, p2, p3, p4, p5⟩ := I.pin q (List.mem_append_left _ hq)
  exact ⟨q, p1, p2, fun hm => (List.mem_cons.mp (I.stkSub q.1 hm)).elim p3 p4, p5⟩
/-- e.f, a property, there -/
theorem pe_propP (he : PE X e ta) (c : Cls X.K C) (hp : PropOf X.K C f p g) (F : FnP X.prog X.w X.K X.mg X.base CX0 k g fd ps sp) (hr : L2H.RoomH (k + 1) X.A) (hs : Aside X) (hb : Binds X.K fd ps ds) (hd : Vals dvs ds)
    (hab : attributeBase e f X.env (eval e X.env) = eval e X.env) : PE X (.Attribute e f pos) (tProp C sp dvs E0 ta) := by
  refine ⟨fun pins s σ H Q I h => ?_⟩
  refine attr_of hab (thn (he.run pins s σ H _ I h) fun u s1 ⟨x, H1, I1, rx, a, dx, fs, ex, ea, q⟩ => ?_)
  subst ex
  cases (show u = Value.ref a from rx)
  obtain ⟨mA, O, _, _, _, _⟩ := ins_get I1.hok ea
  obtain ⟨od, J, _⟩ := O.look
  obtain ⟨rest, hrec⟩ := hp.rec_
  have I2 := I1.tok (s1.toks + 1)
  obtain ⟨pq, hpq⟩ := hs.pin I2
  have hl : ([Value.ref a] ++ ds).length = ps.length := by
    have l1 := F.len _ _ _ _ q
    have l2 := hd.length
    simp only [List.length_append, List.length_cons, List.length_nil] at l1 ⊢
    omega
  have hc : (PySem.W.clsIn X.K C).isSome = true := by
    obtain ⟨cd, hc, _⟩ := PySem.W.any_some c.hd
    rw [hc]; rfl
  have pg := PySem.W.plainGet_of (c.get f)
  refine PySem.W.get_bind I1.kIn J pg.1 (PySem.W.findObj_data hc hp.at_ hp.get hp.tak) pg.2 (wpAny_call (PySem.W.prop_get (s := { s1 with toks := s1.toks + 1 }) I1.kIn hrec ?_))
  refine codeAny_mono (F.run X.A.in1 X.stack { s1 with toks := s1.toks + 1 } H1 ⟨[.ref a], []⟩ (.ref a :: ds) (.ref a :: dvs) Q _ pq ⟨by have := hr.dp; show X.A.depth + 3 * k + 5 < _; omega, by have := hr.un; show X.A.units + 1 + 16 * k + 200 < _; omega⟩ hpq I2.env0.in1 (hb _ [.ref a] I2.kIn hl) (.cons rfl hd) q) fun r s' hq => ?_
  match r, hq with
  | .error er, hq => exact hq.elim
  | .ok (.ret u), hq =>
    obtain ⟨v, H', I3, rv, q3⟩ := I2.after hq
    show wpAny _ _ (handedOut u) _ _ _
    rw [PySem.W.handedOut_of (handed_of rv)]
    exact wpAny_pure ⟨v, H', I3, rv, q3⟩
  | .ok .next, hq => exact hq.elim
  | .ok .brk, hq => exact hq.elim
  | .ok .cont, hq => exact hq.elim
end
end
/-! ### sets of texts -/
section
open PySem PySem.Spec PyProof.Rows
def keyT (e : Int × Value) : Str := match e.2 with
  | .str k _ => k
  | _ => Str.empty
/-- a table with the texts l, each once -/
structure TsOk (w : World) (es : Array (Int × Value)) (t : SetTable) (l : List Str) : Prop where
  good : ∀ e ∈ es.toList, ∃ k u, e = (hashStr w k, Value.str k u)
  perm : (es.toList.map keyT).Perm l
  nd : l.Nodup
  few : es.size < scanBound
  fit : t.fits es.size = true
  ris : L2.Ris t.place.toList
  led : w.params.followText "set-order" = true ∨ t.led = true
def TSet (w : World) (h : Heap) (a : Addr) (l : List Str) : Prop := ∃ o es ep t, h.get? a = some o ∧ o.ExactSet ∧ o.data = .set es ep t ∧ TsOk w es t l
section
variable {P : Program} {w : World} {h h' : Heap} {a : Addr} {l : List Str} {es : Array (Int × Value)} {t : SetTable}
theorem TSet.at (R : TSet w h a l) (k : ∀ o, h.get? a = some o → h'.get? a = some o) : TSet w h' a l := by
  obtain ⟨o, es, ep, t, ho, r⟩ := R
  exact ⟨o, es, ep, t, k o ho, r⟩
theorem str_isS (k : Str) (u : Tok) : (PySem.strKind P w).is k (.str k u) = true := by
  show Value.isStrOf k (.str k u) = true
  simp [Value.isStrOf]
theorem TsOk.elems (T : TsOk w es t l) : ElemsOf (PySem.strKind P w) es.toList := fun e he => by
  obtain ⟨k, u, rfl⟩ := T.good e he
  exact ⟨⟨k, str_isS k u, rfl⟩, rfl⟩
theorem TsOk.size (T : TsOk w es t l) : es.size = l.length := by
  have := T.perm.length_eq
  rwa [List.length_map, Array.length_toList] at this
theorem TsOk.is (T : TsOk w es t l) {e : Int × Value} (he : e ∈ es.toList) (k : Str) : (PySem.strKind P w).is k e.2 = true ↔ keyT e = k := by
  obtain ⟨j, u, rfl⟩ := T.good e he
  constructor
  · intro q
    exact ((PySem.strKind P w).inj (.str j u) k j q (str_isS j u)).symm
  · rintro rfl
    exact str_isS j u
theorem TsOk.mem (T : TsOk w es t l) (k : Str) : k ∈ l ↔ ∃ e ∈ es.toList, (PySem.strKind P w).is k e.2 = true := by
  rw [← T.perm.mem_iff, List.mem_map]
  exact ⟨fun ⟨e, he, q⟩ => ⟨e, he, (T.is he k).2 q⟩, fun ⟨e, he, q⟩ => ⟨e, he, (T.is he k).1 q⟩⟩
theorem TSet.setOf (R : TSet w h a l) : h.SetOf (PySem.strKind P w) a (fun k => decide (k ∈ l)) l.length := by
  obtain ⟨o, es, ep, t, ho, hx, hd, T⟩ := R
  exact ⟨o, es, ep, t, ho, hx, hd, T.elems, fun k => by rw [decide_eq_true_eq]; exact T.mem k, T.few, T.fit, T.size⟩
theorem TsOk.relay (T : TsOk w es t l) : TsOk w (relayAll t es (SetTable.grown es.size)).1 (relayAll t es (SetTable.grown es.size)).2.1 l := by
  have pm := relayAll_perm t es (SetTable.grown es.size)
  have hs : (relayAll t es (SetTable.grown es.size)).1.size = es.size := by rw [← Array.length_toList, pm.length_eq, Array.length_toList]
  exact ⟨fun e he => T.good e (pm.mem_iff.mp he), (pm.map keyT).trans T.perm, T.nd, by rw [hs]; exact T.few, relayAll_fits t es _, L2.relayAll_ris t es _, T.led.imp id fun z => by rw [L2.relayAll_led]; exact z⟩
theorem TsOk.off (T : TsOk w es t l) : TsOk w es { t with plain := false } l := ⟨T.good, T.perm, T.nd, T.few, SetTable.fits_plain_off T.fit, T.ris, T.led⟩
theorem TsOk.lay (T : TsOk w es t l) {k : Str} (u : Tok) (hk : k ∉ l) (room : l.length + 1 < scanBound) : TsOk w (layNew t es (hashStr w k) (.str k u)).1 (layNew t es (hashStr w k) (.str k u)).2.1 (k :: l) := by
  have pm := layNew_perm t es (hashStr w k) (.str k u)
  rw [Array.toList_push] at pm
  have pc := pm.trans (List.perm_append_singleton _ _)
  have pk : _ = _ := (pc.map keyT).length_eq
  have hs : (layNew t es (hashStr w k) (.str k u)).1.size = l.length + 1 := by
    rw [← Array.length_toList, pc.length_eq, List.length_cons, Array.length_toList, T.size]
  refine ⟨fun e he => ?_, (pc.map keyT).trans (T.perm.cons _), List.nodup_cons.mpr ⟨hk, T.nd⟩, by rw [hs]; exact room, layNew_fits t es _ _, L2.layNew_ris t es _ _ T.ris, T.led.imp id fun z => by rw [L2.layNew_led]; exact z⟩
  rcases List.mem_cons.mp (pc.mem_iff.mp he) with z | z
  · exact ⟨k, u, z⟩
  · exact T.good e z
theorem TSet.new (w : World) (h : Heap) : TSet w (h.push { cls := .type "set", dict := none, data := .set #[] 0 (.fresh 0 0 (!w.params.followText "set-order")) }) h.objs.size [] := by
  refine ⟨_, #[], 0, _, Heap.get?_push_size _ rfl, ⟨rfl, rfl, rfl⟩, rfl, (fun e he => by simp at he), by simp, List.nodup_nil, by decide, by rfl, List.Pairwise.nil, ?_⟩
  show _ ∨ (!w.params.followText "set-order") = true
  cases w.params.followText "set-order" <;> simp
end
/-- with k -/
def addT (k : Str) (l : List Str) : List Str := if k ∈ l then l else k :: l
theorem addT_mem {k j : Str} {l : List Str} : j ∈ addT k l ↔ j = k ∨ j ∈ l := by
  unfold addT
  split
  · rename_i h
    exact ⟨.inr, fun z => z.elim (fun e => e ▸ h) id⟩
  · exact List.mem_cons
theorem addT_nd {k : Str} {l : List Str} (h : l.Nodup) : (addT k l).Nodup := by
  unfold addT
  split
  · exact h
  · rename_i q
    exact List.nodup_cons.mpr ⟨q, h⟩
theorem addT_len {k : Str} {l : List Str} : (addT k l).length ≤ l.length + 1 := by
  unfold addT
  split <;> simp
section
variable {P : Program} {w : World} {A : Around} {E : Value → Shared → Prop} {s : Shared} {a : Addr} {l : List Str}
theorem ts_tail {g : Bool → Sem Unit} (hg : ∀ (b : Bool) (z : Shared) (q : Unit → Shared → Prop), q () z → wpAny (model P w) A (g b) q E z) {o : Obj} {es es1 : Array (Int × Value)} {ep : Nat} {t t2 : SetTable} (ho : s.heap.get? a = some o) (hex : o.ExactSet) (hd : o.data = .set es ep t)
    (T : TsOk w es1 t2 l) {wd : Bool} {R : Option Bool → Shared → Prop} (hR : ∀ h', Heap.SameBut a s.heap h' → TSet w h' a l → R (some true) { s with heap := h' }) :
    wpAny (model P w) A (do
        storeSet a es1 t2
        if (!wd && t2.tooFull) = true then do
            g (relayAll t2 es1 (SetTable.grown es1.size)).2.2
            storeSet a (relayAll t2 es1 (SetTable.grown es1.size)).1 (relayAll t2 es1 (SetTable.grown es1.size)).2.1
            pure (some true)
          else pure (some true)) R E s := by
  have sb := Heap.SameBut.update s.heap a (Obj.putSet es1 t2)
  have ho1 := L2.store_at (es' := es1) (t' := t2) ho hd
  refine wpAny_bind (wpAny_storeSet_of ho hd ?_ (fits_of_scanBound T.few))
  split
  · have T2 := T.relay
    generalize relayAll t2 es1 (SetTable.grown es1.size) = Z at T2 ⊢
    obtain ⟨es2, t3, gv⟩ := Z
    dsimp only at T2 ⊢
    refine wpAny_bind (hg _ _ _ (wpAny_bind (wpAny_storeSet_of ho1 rfl ?_ (fits_of_scanBound T2.few))))
    exact wpAny_pure (hR _ (sb.trans (Heap.SameBut.update _ a _)) ⟨_, es2, _, t3, L2.store_at (es' := es2) (t' := t3) ho1 rfl, hex, rfl, T2⟩)
  · exact wpAny_pure (hR _ sb ⟨_, es1, _, t2, ho1, hex, rfl, T⟩)
theorem ts_addH {k : Str} {u : Tok} {Q : Bool → Shared → Prop} (R : TSet w s.heap a l) (room : l.length + 1 < scanBound) (hQ : ∀ h' b, Heap.SameBut a s.heap h' → TSet w h' a (addT k l) → Q b { s with heap := h' }) :
    wpAny (model P w) A (setAddHashed a (.str k u) ((PySem.strKind P w).hash k)) Q E s := by
  obtain ⟨o, es, ep, t, ho, hex, hd, T⟩ := R
  have hel : ElemsOf (PySem.strKind P w) es.toList := T.elems
  have hgw : ∀ (b : Bool) (z : Shared) (q : Unit → Shared → Prop), q () z → wpAny (model P w) A (match b with | true => rule "set.scan.the-table-gave-way" | false => pure ()) q E z := fun b z q hq => by
    cases b
    · exact wpAny_pure hq
    · exact wpAny_rule hq
  unfold setAddHashed setAddHashedIn
  refine wpAny_holding (wpAny_bind (wpAny_setState_of ho hd T.fit ?_))
  dsimp only
  rw [byScan_of (show (Value.str k u).scannable = true from rfl) T.few hel]
  simp only [↓reduceIte]
  unfold setAddByScan
  refine wpAny_bind (wpAny_bind (wpAny_rule (wpAny_bind (wpAny_setScan_of (str_isS k u) ho hd T.fit hel ?_))))
  cases hfi : List.findIdx? (fun e => (PySem.strKind P w).is k e.2) es.toList with
  | some j =>
    dsimp only
    obtain ⟨hj, pj, _⟩ := List.findIdx?_eq_some_iff_getElem.mp hfi
    have hk : k ∈ l := (T.mem (P := P) k).2 ⟨_, List.getElem_mem hj, pj⟩
    refine wpAny_pure (wpAny_pure (hQ s.heap _ (Heap.SameBut.refl a s.heap) ?_))
    rw [show addT k l = l from if_pos hk]
    exact ⟨o, es, ep, t, ho, hex, hd, T⟩
  | none =>
    dsimp only
    have hk : k ∉ l := fun z => by
      obtain ⟨e, he, q⟩ := (T.mem (P := P) k).1 z
      have c := List.findIdx?_eq_none_iff.mp hfi e he
      rw [q] at c; cases c
    rw [show addT k l = k :: l from if_neg hk] at hQ
    have T1 : TsOk w (layNew t es ((PySem.strKind P w).hash k) (.str k u)).1 (layNew t es ((PySem.strKind P w).hash k) (.str k u)).2.1 (k :: l) := T.lay u hk room
    generalize layNew t es ((PySem.strKind P w).hash k) (.str k u) = Z at T1 ⊢
    obtain ⟨es1, t1, wd, gv⟩ := Z
    dsimp only at T1 ⊢
    refine wpAny_bind (hgw _ _ _ ?_)
    split
    · refine wpAny_bind ?_
      rw [hashByValue_scannable 8 (x := Value.str k u) rfl]
      refine wpAny_pure (ts_tail (l := k :: l) ?_ ho hex hd ?_ fun h' sb r => ?_)
      · exact fun b z q hq => hgw b z q hq
      · split
        · exact T1
        · exact T1.off
      · dsimp only
        exact wpAny_pure (hQ h' _ sb r)
    · refine wpAny_bind (wpAny_pure ?_)
      simp only [↓reduceIte]
      refine ts_tail ?_ ho hex hd T1 fun h' sb r => ?_
      · exact fun b z q hq => hgw b z q hq
      · dsimp only
        exact wpAny_pure (hQ h' _ sb r)
end
end
/-! ### sets of texts, tracked: add, comprehensions, sorted -/
section
open PySem PySem.Spec PyProof.Rows
def TSO (w : World) (a : Addr) (l : List Str) : HO := .ext fun h => TSet w h a l
theorem tso_new {w : World} {P : Program} {H : Hp} {h : Heap} {a : Addr} {l : List Str} (R : TSet w h a l) : ObjOk P w H h a (TSO w a l) := by
  have ⟨o, _, _, _, ho, _⟩ := R
  exact ⟨R, ⟨o, ho⟩, fun _ _ q k => q.at k⟩
section
variable {X : Cx}
theorem tso_get {pins : List (Addr × Obj)} {σ : L2.St} {H : Hp} {s : Shared} {a : Addr} {l : List Str} (I : Inv X pins σ H s) (ha : H a = some (TSO X.w a l)) : TSet X.w s.heap a l := (I.hok a _ ha).1
theorem ts_add {pins : List (Addr × Obj)} {σ : L2.St} {H : Hp} {s : Shared} {E : Value → Shared → Prop} {D : Addr} {l : List Str} {k : Str} {u : Tok} {Q : Value → Shared → Prop} (I : Inv X pins σ H s) (hD : H D = some (TSO X.w D l)) (room : l.length + 1 < scanBound)
    (h : ∀ s', Inv X pins σ (upd H D (TSO X.w D (addT k l))) s' → Q .none s') : wpAny (model X.prog X.w) X.A (call (.builtin "set.add") [.ref D, .str k u]) Q E s := by
  have R := tso_get I hD
  have hS : s.heap.SetOf (PySem.strKind X.prog X.w) D (fun k => decide (k ∈ l)) l.length := R.setOf
  refine wpAny_call_entry F.slot_set_add hS.typeIs F.entry_set_add ?_ (F.args_set_add_2 _ _)
  unfold Builtin.«set.add» Builtin.Frozenset.oneOther
  simp only [List.isEmpty_nil, bind_assoc]
  unfold Builtin.Frozenset.addrOf setAdd
  refine wpAny_bind (wpAny_pure ?_)
  try dsimp only
  refine wpAny_bind (wpAny_pure ?_)
  try dsimp only
  refine wpAny_bind (wpAny_holding (wpAny_bind ((PySem.strKind X.prog X.w).pyHash (str_isS k u) (ts_addH (s := { s with toks := s.toks + 1 }) R room fun h' b sb new => ?_))))
  have he : ∃ v, h'.get? D = some v := let ⟨o, _, _, _, ho, _⟩ := new; ⟨o, ho⟩
  exact wpAny_pure ⟨_, rfl, h _ (I.write (e := D) (t' := s.toks + 1) (by rw [hD]; trivial) (.inl rfl) (fun b v hb hu => (sb.2 b hb).trans hu) he (tso_new new))⟩
/-- {elt for target in iter if ..}, elt a text: D the new set -/
def tScT (w : World) (wi : TI) (g : TG) (tt : TT) (te : TE) (vs : List Nat) : TE := fun σ H Q => wi σ H fun J H1 => ∀ D, H1 D = none → ∃ W : Nat → Nat → Hp → Prop, (∃ m, W 0 m (upd H1 D (TSO w D []))) ∧ ∀ i m H, W i m H →
  (J.stop i H ∧ Q (.ref D) H) ∨ (J.go i H ∧ ∃ Nx : Hp → Prop, (∀ H', Nx H' → ∃ m', m' < m ∧ W (i + 1) m' H') ∧ ∀ x H', J.yld i H x H' → g x (wipe σ vs) H' fun σ2 H2 => wipe σ2 vs = wipe σ vs ∧ tt σ2 H2 fun b H3 =>
    if b = true then te σ2 H3 fun y H4 => ∃ (c : Str) (l : List Str), y = .str c ∧ H4 D = some (TSO w D l) ∧ l.length + 1 < scanBound ∧ Nx (upd H4 D (TSO w D (addT c l))) else Nx H3)
theorem pe_scT {elt tg iter : Expr} {ifs : List Expr} {scope : Scope} {own : List (Str × Nat)} {pos : Pos} {wi : TI} {g : TG} {tt : TT} {te : TE} (hc : X.calm = true) (hN : X.N.Nodup) (hi : PI X tg iter wi) (ok : BlkOk X.N X.env.scope scope own)
    (hg : ∀ (s : Shared) (H : Hp) (C : Addr) (cl : List (Str × Addr)) (fp : List Addr), PG (X.blk s H scope (compEnvC scope cl C X.env) fp) tg g) (ht : ∀ (s : Shared) (H : Hp) (C : Addr) (cl : List (Str × Addr)) (fp : List Addr), PTs (X.blk s H scope (compEnvC scope cl C X.env) fp) ifs tt)
    (he : ∀ (s : Shared) (H : Hp) (C : Addr) (cl : List (Str × Addr)) (fp : List Addr), PE (X.blk s H scope (compEnvC scope cl C X.env) fp) elt te) (hs : ∀ x, foldedSetIterable iter X.env x = pure x := by intro _; rfl) :
    PE X (.SetComp elt [⟨tg, iter, ifs, 0⟩] scope pos) (tScT X.w wi g tt te (own.map (·.2))) := by
  refine ⟨fun pins s σ H Q I h => ?_⟩
  rw [PpSet.eval_SetComp]
  have fr : ∀ y ∈ scope.names, y.2 = .free → ∃ c, X.env.cells.lookup y.1 = some c := fun y hy e => (ok.free y hy e).elim (fun k => I.ok.has _ (.inl k)) fun k => I.ok.has _ (.inr k)
  refine wpAny_comprehension_free (use := none) rfl hs (closure_ok fr) ok.kind (fun y hy e => by rw [ok.uniq y hy, e]) (thn (hi.run pins s σ H _ I h) fun xv s1 hx => thn hx fun itv s2 h2 => ?_)
  obtain ⟨it, fp, tn, J, H2, rfl, I2, T, st2, f2, q⟩ := h2
  refine PpSet.newSet_ok (newEnv_comp ?_)
  generalize hD : s2.heap.objs.size = D
  obtain ⟨W, ⟨m0, w0⟩, turn⟩ := q D (I2.hok.fresh (Nat.le_of_eq hD))
  generalize hs3 : ({ s2 with heap := s2.heap.push { cls := .type "set", dict := none, data := .set #[] 0 (.fresh 0 0 (!X.w.params.followText "set-order")) } } : Shared) = s3
  have e3 : s3.heap = s2.heap.push { cls := .type "set", dict := none, data := .set #[] 0 (.fresh 0 0 (!X.w.params.followText "set-order")) } := by rw [← hs3]
  have I3 : Inv X pins σ (upd H2 D (TSO X.w D [])) s3 := by
    rw [← hs3]
    exact I2.laid (t' := s2.toks) (fun b o e => Heap.get?_push_of_some _ e) (Nat.le_of_eq hD) (hD ▸ tso_new (TSet.new X.w s2.heap))
  have f3 : ∀ b ∈ fp, FpOk X pins (upd H2 D (TSO X.w D [])) b ∧ b < s3.heap.objs.size := fun b hb => by
    obtain ⟨o, e, _⟩ := T.obj _ _ st2 b hb
    have lt := Heap.lt_size e
    refine ⟨⟨?_, (f2 b hb).2⟩, by rw [e3, Heap.size_push]; exact Nat.lt_succ_of_lt lt⟩
    rw [upd_ne (by rw [← hD]; exact Nat.ne_of_lt lt)]
    exact (f2 b hb).1
  have I4 := block_start I3 ok hN f3
  have pg := hg s3 (upd H2 D (TSO X.w D [])) s3.heap.objs.size (cellsFrom (s3.heap.objs.size + 1) scope.names (cloFrom X.env.cells scope.names [])) fp
  have pt := ht s3 (upd H2 D (TSO X.w D [])) s3.heap.objs.size (cellsFrom (s3.heap.objs.size + 1) scope.names (cloFrom X.env.cells scope.names [])) fp
  have pe := he s3 (upd H2 D (TSO X.w D [])) s3.heap.objs.size (cellsFrom (s3.heap.objs.size + 1) scope.names (cloFrom X.env.cells scope.names [])) fp
  have fin0 : ∀ s' m H', Inv X pins σ H' s' → Q (.ref D) H' → s'.heap.Ns s3.heap.objs.size m → FpOk X pins H' s3.heap.objs.size → compPost (model X.prog X.w) X.A X.xe none (EP X pins σ Q) (.ref D) s3.heap.objs.size (.ok .next) s' := fun s' m H' I' q hn f => by
    obtain ⟨f0, f1, f2, f3, f4, f5⟩ := f
    exact ⟨m, hn, fun h'' sb => ⟨.ref D, H', I'.turned (t' := s'.toks) (fun b o hb e => (sb.2 b hb).trans e) f0 f1 f3 f4 f5, rfl, q⟩⟩
  show codeAny _ _ (.compStart (.SetComp elt [⟨tg, iter, ifs, 0⟩] scope pos) 0 (.ref it) (.ref D) (compEnvC scope (cellsFrom (s3.heap.objs.size + 1) scope.names (cloFrom X.env.cells scope.names [])) s3.heap.objs.size X.env)) (compPost (model X.prog X.w) X.A X.xe none (EP X pins σ Q) (.ref D) s3.heap.objs.size) { s3 with heap := pushCells (s3.heap.push { cls := .type "dict", data := .dict #[] }) scope.names }
  have nfp : ∀ b ∈ fp, (upd H2 D (TSO X.w D [])) b = none := fun b hb => (f3 b hb).1.1
  have st3 : tn 0 s3.heap := T.keep _ _ _ st2 fun b _ o e => by rw [e3]; exact Heap.get?_push_of_some _ e
  generalize hce : compEnvC scope (cellsFrom (s3.heap.objs.size + 1) scope.names (cloFrom X.env.cells scope.names [])) s3.heap.objs.size X.env = ce at I4 pg pt pe ⊢
  have cL : ce.locals = s3.heap.objs.size := by subst hce; rfl
  generalize hH3 : upd H2 D (TSO X.w D []) = H3 at I3 I4 pg pt pe w0 nfp f3
  generalize hs4 : ({ s3 with heap := pushCells (s3.heap.push { cls := .type "dict", data := .dict #[] }) scope.names } : Shared) = s4 at I4 ⊢
  have st4 : tn 0 s4.heap := T.keep _ _ _ st3 fun b _ o e => by rw [← hs4]; exact pushCells_keeps _ _ _ _ (Heap.get?_push_of_some _ e)
  have stat : ∀ {σ' : L2.St} {H' : Hp} {s' : Shared}, Inv (X.blk s3 H3 scope ce fp) [] σ' H' s' → (∀ b ∈ fp, H' b = none) → ∀ b ∈ fp, FpOk (X.blk s3 H3 scope ce fp) [] H' b := fun {σ' H' s'} J hn b hb =>
    ⟨hn b hb, (J.ok.exf b hb).1, J.ok.exfs b hb, .inl hb, fun x c e => (J.ok.exf b hb).2 x c e, fun p hp => absurd (show p ∈ ([] : List (Addr × Obj)) ++ [] from hp) (by simp)⟩
  have loop : codeAny (model X.prog X.w) X.A (.compLoop (.SetComp elt [⟨tg, iter, ifs, 0⟩] scope pos) 0 (.ref it) (.ref D) ce) (compPost (model X.prog X.w) X.A X.xe none (EP X pins σ Q) (.ref D) s3.heap.objs.size) s4 := by
    refine PpSet.compLoopS_any (fun n s' => ∃ i H', Inv (X.blk s3 H3 scope ce fp) [] (wipe σ (own.map (·.2))) H' s' ∧ tn i s'.heap ∧ (∀ b ∈ fp, H' b = none) ∧ W i n H') ?_ m0 ⟨0, H3, I4, st4, nfp, w0⟩
    rintro n s5 ⟨i, H5, I5, st5, n5, w5⟩
    rcases turn i n H5 w5 with ⟨stop, qq⟩ | ⟨go, Nx, hNx, step⟩
    · refine thnF (T.done (X.blk s3 H3 scope ce fp) rfl rfl rfl hc i [] s5 _ H5 (fun _ _ => False) I5 (stat I5 n5) st5 stop) fun r s6 ⟨hr, I6⟩ => ?_
      subst hr
      have I7 : Inv X pins σ H5 s6 := I3.call' (ch := fp) I6.os I6.base I6.hok I6.bare fun b hb => let ⟨_, g1, _, g3, g4, g5⟩ := (f3 b hb).1; ⟨g3, g1, g4, g5⟩
      have nC : H5 ce.locals = none := I6.free
      obtain ⟨m, hn, _⟩ := I6.loc
      have hn : s6.heap.Ns ce.locals m := hn
      rw [cL] at hn nC
      exact fin0 s6 m H5 I7 qq hn (I3.fpOk (Nat.le_refl _) nC)
    · refine thnF (T.item (X.blk s3 H3 scope ce fp) rfl rfl rfl hc i [] s5 _ H5 (fun _ _ => False) I5 (stat I5 n5) st5 go) fun r s6 ⟨u, hr, h6⟩ => ?_
      subst hr
      refine thnF h6 fun _ s7 ⟨x, H7, I7, r7, y7, st7, n7⟩ => ?_
      refine thnF (pg.run _ s7 _ H7 x u _ (I7.pinned (stat I7 n7) (T.obj _ _ st7)) r7 (step x H7 y7)) fun _ s8 ⟨σ8, H8, I8, hw8, q8⟩ => ?_
      refine thnF (pt.run _ s8 σ8 H8 _ I8 q8) fun b s9 ⟨H9, I9, q9⟩ => ?_
      have back : ∀ {s' : Shared} {H' : Hp}, Inv (X.blk s3 H3 scope ce fp) ([] ++ pinsAt fp s7.heap) σ8 H' s' → Nx H' → ∃ m, m < n ∧ ∃ i H', Inv (X.blk s3 H3 scope ce fp) [] (wipe σ (own.map (·.2))) H' s' ∧ tn i s'.heap ∧ (∀ b ∈ fp, H' b = none) ∧ W i m H' := fun {s' H'} J nx => by
        obtain ⟨m', hm, w'⟩ := hNx H' nx
        have pin : ∀ b ∈ fp, ∀ o, s7.heap.get? b = some o → s'.heap.get? b = some o ∧ H' b = none := fun b hb o e =>
          let z := J.pin (b, o) (List.mem_append_right _ (List.mem_append_right _ (mem_pinsAt hb e))); ⟨z.1, z.2.1⟩
        refine ⟨m', hm, i + 1, H', (J.unpinned (pins := [])).weak (by rw [← hw8, wipe_length]) (fun j v e => ?_), T.keep _ _ _ st7 fun b hb o e => (pin b hb o e).1, fun b hb => ?_, w'⟩
        · rw [← hw8] at e
          exact (wipe_some e).1
        · obtain ⟨o, e, _⟩ := T.obj _ _ st7 b hb
          exact (pin b hb o e).2
      cases b with
      | false =>
        simp only [Bool.false_eq_true, if_false] at q9 ⊢
        exact back I9 q9
      | true =>
        simp only [if_true] at q9 ⊢
        refine thnF (pe.run _ s9 σ8 H9 _ I9 q9) fun z s10 ⟨yv, H10, I10, r10, c, l, ey, hD10, hz10, nx⟩ => ?_
        subst ey
        obtain ⟨tk, rfl⟩ := r10
        exact ts_add (X := X.blk s3 H3 scope ce fp) I10 hD10 hz10 fun s11 I11 => back I11 nx
  exact PpSet.codeAny_compStart_set loop (T.self X.A 0 _ _ _ st4 loop)
end
/-- over a list that the block leaves as it is -/
theorem sc_listT {w : World} {K : PySem.W.Frag} {a : Addr} {xs : List V} {g : TG} {tt : TT} {te : TE} {vs : List Nat} {σ : L2.St} {H1 : Hp} {D : Addr} {Qd : Hp → Prop} (Pv : Nat → Hp → Prop) (h0 : Pv 0 (upd H1 D (TSO w D []))) (hl : ∀ i H, i ≤ xs.length → Pv i H → SqL K H a xs)
    (hs : ∀ i x H, xs[i]? = some x → Pv i H → g x (wipe σ vs) H fun σ2 H2 => wipe σ2 vs = wipe σ vs ∧ tt σ2 H2 fun b H3 =>
      if b = true then te σ2 H3 fun y H4 => ∃ (c : Str) (l : List Str), y = .str c ∧ H4 D = some (TSO w D l) ∧ l.length + 1 < scanBound ∧ Pv (i + 1) (upd H4 D (TSO w D (addT c l))) else Pv (i + 1) H3) (hd : ∀ H, Pv xs.length H → Qd H) :
    ∃ W : Nat → Nat → Hp → Prop, (∃ m, W 0 m (upd H1 D (TSO w D []))) ∧ ∀ i m H, W i m H →
      ((Itl K a).stop i H ∧ Qd H) ∨ ((Itl K a).go i H ∧ ∃ Nx : Hp → Prop, (∀ H', Nx H' → ∃ m', m' < m ∧ W (i + 1) m' H') ∧ ∀ x H', (Itl K a).yld i H x H' → g x (wipe σ vs) H' fun σ2 H2 => wipe σ2 vs = wipe σ vs ∧ tt σ2 H2 fun b H3 =>
        if b = true then te σ2 H3 fun y H4 => ∃ (c : Str) (l : List Str), y = .str c ∧ H4 D = some (TSO w D l) ∧ l.length + 1 < scanBound ∧ Nx (upd H4 D (TSO w D (addT c l))) else Nx H3) := by
  refine ⟨fun i m H => m = xs.length - i ∧ i ≤ xs.length ∧ Pv i H, ⟨xs.length, (Nat.sub_zero _).symm, Nat.zero_le _, h0⟩, ?_⟩
  rintro i m H ⟨rfl, hi, p⟩
  have q := hl i H hi p
  rcases Nat.lt_or_ge i xs.length with lt | ge
  · refine .inr ⟨⟨xs, xs[i], q, by simp [lt]⟩, Pv (i + 1), fun H' p' => ⟨xs.length - (i + 1), by omega, rfl, lt, p'⟩, fun x H' y => ?_⟩
    obtain ⟨e, y⟩ := y
    subst e
    exact hs i x _ (y xs q) p
  · obtain rfl : i = xs.length := Nat.le_antisymm hi ge
    exact .inl ⟨⟨xs, q, Nat.le_refl _⟩, hd H p⟩
end
/-! ### sorted texts -/
section
open PySem PySem.Spec PyProof.Rows
/-- x stands ahead of y, or they are the same -/
def leT (x y : Str) : Prop := ¬ y.cps.toList < x.cps.toList
instance (x y : Str) : Decidable (leT x y) := inferInstanceAs (Decidable (¬ _))
theorem str_ext {x y : Str} (h : x.cps.toList = y.cps.toList) : x = y := by
  cases x
  cases y
  exact congrArg Str.mk (Array.toList_inj.mp h)
theorem nlt_irrefl : ∀ l : List Nat, ¬ l < l := List.lt_irrefl
theorem leT_refl (x : Str) : leT x x := List.lt_irrefl _
theorem leT_anti {x y : Str} (h : leT x y) (k : leT y x) : x = y := str_ext (List.le_antisymm (List.not_lt.mp h) (List.not_lt.mp k))
theorem leT_trans {x y z : Str} (h : leT x y) (k : leT y z) : leT x z := List.not_lt.mpr (List.le_trans (List.not_lt.mp h) (List.not_lt.mp k))
theorem leT_total (x y : Str) : leT x y ∨ leT y x := by
  rcases List.le_total x.cps.toList y.cps.toList with h | h
  · exact .inl (List.not_lt.mpr h)
  · exact .inr (List.not_lt.mpr h)
theorem rising_pw : ∀ (l : List Str) (p : Str), risingS p l = true → (p :: l).Pairwise leT
  | [], p, _ => by simp
  | x :: r, p, h => by
    have h1 : (leT p x) ∧ risingS x r = true := by
      unfold risingS at h
      rw [Bool.and_eq_true, PyProof.Rows.ltCps_eq, Bool.not_eq_true', decide_eq_false_iff_not] at h
      exact h
    have ih := rising_pw r x h1.2
    refine List.pairwise_cons.mpr ⟨fun y hy => ?_, ih⟩
    rcases List.mem_cons.mp hy with rfl | hy
    · exact h1.1
    · exact leT_trans h1.1 ((List.pairwise_cons.mp ih).1 y hy)
theorem sorted_pw {l : List Str} (h : sortedS l = true) : l.Pairwise leT := by
  cases l with
  | nil => exact .nil
  | cons x r => exact rising_pw r x h
theorem pw_unique : ∀ {l m : List Str}, l.Perm m → l.Pairwise leT → m.Pairwise leT → l = m
  | [], m, p, _, _ => (List.perm_nil.mp p.symm).symm
  | x :: l, m, p, hl, hm => by
    cases m with
    | nil => exact absurd (List.perm_nil.mp p) (by simp)
    | cons y m =>
      have e : x = y := by
        have h1 : x ∈ y :: m := p.mem_iff.mp List.mem_cons_self
        have h2 : y ∈ x :: l := p.mem_iff.mpr List.mem_cons_self
        rcases List.mem_cons.mp h1 with e | h1
        · exact e
        rcases List.mem_cons.mp h2 with e | h2
        · exact e.symm
        exact leT_anti ((List.pairwise_cons.mp hl).1 y h2) ((List.pairwise_cons.mp hm).1 x h1)
      subst e
      rw [pw_unique (List.perm_cons _ |>.mp p) (List.pairwise_cons.mp hl).2 (List.pairwise_cons.mp hm).2]
/-- sorted -/
def sortT (l : List Str) : List Str := l.mergeSort fun x y => decide (leT x y)
theorem sortT_perm (l : List Str) : (sortT l).Perm l := List.mergeSort_perm l _
theorem sortT_pw (l : List Str) : (sortT l).Pairwise leT := by
  have h := List.pairwise_mergeSort (le := fun x y => decide (leT x y)) (fun a b c h k => by
    rw [decide_eq_true_eq] at h k ⊢
    exact leT_trans h k) (fun a b => by
    rw [Bool.or_eq_true, decide_eq_true_eq, decide_eq_true_eq]
    exact leT_total a b) l
  exact h.imp fun h => of_decide_eq_true h
theorem sortT_of {l ys : List Str} (p : ys.Perm l) (h : sortedS ys = true) : ys = sortT l := pw_unique (p.trans (sortT_perm l).symm) (sorted_pw h) (sortT_pw l)
theorem sortT_congr {l m : List Str} (p : l.Perm m) : sortT l = sortT m := pw_unique ((sortT_perm l).trans (p.trans (sortT_perm m).symm)) (sortT_pw l) (sortT_pw m)
theorem sortT_mem {l : List Str} {k : Str} : k ∈ sortT l ↔ k ∈ l := (sortT_perm l).mem_iff
theorem sortT_len {l : List Str} : (sortT l).length = l.length := (sortT_perm l).length_eq
theorem nd_perm {l m : List Str} (hl : l.Nodup) (hm : m.Nodup) (h : ∀ k, k ∈ l ↔ k ∈ m) : l.Perm m := by
  rw [List.perm_iff_count]
  intro k
  rw [hl.count, hm.count]
  simp [h k]
theorem strs_ofV : ∀ (l : List Value), (∀ v ∈ l, ∃ k u, v = Value.str k u) → ∃ ss, StrsAre l ss ∧ l.map (fun v => keyT (0, v)) = ss
  | [], _ => ⟨[], .nil, rfl⟩
  | v :: l, h => by
    obtain ⟨k, u, rfl⟩ := h v List.mem_cons_self
    obtain ⟨ss, h1, h2⟩ := strs_ofV l fun x hx => h x (List.mem_cons_of_mem _ hx)
    exact ⟨k :: ss, .cons k u h1, by rw [List.map_cons, h2]; rfl⟩
section
variable {P : Program} {w : World} {A : Around} {E : Value → Shared → Prop} {s : Shared} {a : Addr} {l : List Str}
theorem ts_sorted {Q : Value → Shared → Prop} (R : TSet w s.heap a l) (hh : A.handled = none)
    (hQ : ∀ s' p (out : Array Value) (c : Nat), (∀ b o, s.heap.get? b = some o → s'.heap.get? b = some o) → s'.gens = s.gens → s'.os = s.os → s.heap.objs.size ≤ p → s'.heap.get? p = some (seqObj "list" out c) → StrsAre out.toList (sortT l) → Q (.ref p) s') :
    wpAny (model P w) A (call (.builtin "sorted") [.ref a]) Q E s := by
  obtain ⟨o, es, ep, t, ho, hex, hd, T⟩ := R
  refine Calls.call_function_entry kind_sorted plain_sorted entry_sorted (args_sorted1 _) ?_
  unfold Builtin.«sorted»
  refine wpAny_bind (m := checkCount "sorted" 1 1 _) (wpAny_pure (wpAny_bind (L2.collect_set (A := A.in1) hh ⟨o, ho, hex.1, hd⟩ T.fit T.few T.ris T.led fun s1 vs k1 hz g1 o1 pm => ?_)))
  obtain ⟨ss, hS, es'⟩ := strs_ofV vs fun v hv => by
    obtain ⟨e, he, q⟩ := List.mem_map.mp (pm.mem_iff.mp hv)
    obtain ⟨k, u, rfl⟩ := T.good e he
    exact ⟨k, u, q.symm⟩
  have ps : ss.Perm l := by
    have q := pm.map fun v => keyT (0, v)
    rw [es', List.map_map] at q
    exact q.trans T.perm
  have hv : vs.length = l.length := by rw [pm.length_eq, List.length_map, Array.length_toList, T.size]
  have hL : vs.length ≤ sizeLine := by rw [hv, ← T.size]; exact fits_of_scanBound T.few
  refine wpAny_bind (wpAny_newList ?_ hL)
  have hoL : (s1.heap.push (seqObj "list" vs.toArray 0)).get? s1.heap.objs.size = some (seqObj "list" vs.toArray 0) := Heap.get?_push_size _ rfl
  refine wpAny_bind (wpAny_holding (wpAny_call_entry slot_list_sort ⟨_, hoL, rfl⟩ entry_list_sort (list_sort_treeKAny strKind_oneLt hoL hS.keysOf (fun v₁ v₂ rest e => keyKind_strs (by rw [← e]; exact hS)) hL fun st' hp hs => ⟨_, rfl, ?_⟩) (args_list_sort _)))
  obtain ⟨ys, h1, h2, h3⟩ := sorted_out_str hS hp hs
  obtain ⟨c, hc⟩ := sortedHeap_at (vs := vs) (out := (arrOf st').map (·.2)) hoL
  rw [sortT_of (h2.trans ps) h3] at h1
  refine wpAny_pure ⟨_, rfl, hQ _ s1.heap.objs.size _ c (fun b u e => ?_) g1 o1 hz hc h1⟩
  have q := k1 b u e
  have lt := Heap.lt_size q
  show (sortedHeap (s1.heap.push (seqObj "list" vs.toArray 0)) s1.heap.objs.size vs _).get? b = some u
  rw [sortedHeap_old (Nat.ne_of_lt lt) (by rw [size_push']; exact Nat.lt_succ_of_lt lt)]
  exact Heap.get?_push_of_some _ q
end
section
variable {X : Cx}
/-- sorted(found) -/
theorem cr_sortTS (hc : X.calm = true) : CallR X (.builtin "sorted") (fun vs H Q => ∃ (a : Addr) (l : List Str), vs = [V.ref a] ∧ H a = some (TSO X.w a l) ∧ ∀ p, H p = none → Q (.ref p) (upd H p (.lst ((sortT l).map V.str)))) := by
  intro pins s σ H vs us Q I r h
  obtain ⟨a, l, rfl, ha, q⟩ := h
  have R := tso_get I ha
  rw [Vals.ref1 r]
  have hl : l.length ≤ sizeLine := by
    obtain ⟨o, es, ep, t, ho, hex, hd, T⟩ := R
    rw [← T.size]; exact fits_of_scanBound T.few
  refine ts_sorted R (I.ok.hd hc) fun s' p out c k g o hp hg hi => ?_
  have hn : H p = none := I.hok.fresh hp
  have J : Inv X pins σ (upd H p (.lst ((sortT l).map V.str))) { s with heap := s'.heap, gens := s'.gens, drawn := s'.drawn, toks := s'.toks } :=
    I.call (ch := []) (Un.laid k hp hn) (I.hok.laid k hp ⟨by rw [List.length_map, sortT_len]; exact hl, out.toList, c, vals_of_strs hi, hg⟩) (by rw [g]; exact I.bare) (fun _ z => nomatch z)
  obtain ⟨h', g', d', t', os'⟩ := s'
  obtain ⟨h0, g0, d0, t0, os0⟩ := s
  cases (show os' = os0 from o)
  exact ⟨.ref p, _, J, rfl, q p hn⟩
/-- sorted(texts), any number -/
theorem cr_sortLS : CallR X (.builtin "sorted") (fun vs H Q => ∃ (a : Addr) (xs : List Str), vs = [V.ref a] ∧ SqL X.K H a (xs.map V.str) ∧ ∀ p, H p = none → Q (.ref p) (upd H p (.lst ((sortT xs).map V.str)))) := by
  intro pins s σ H vs us Q I r h
  obtain ⟨a, xs, rfl, hs, q⟩ := h
  obtain ⟨its, rv, hl, hlen⟩ := I.list hs
  rw [Vals.ref1 r]
  have l0 := rv.length
  rw [List.length_map] at l0 hlen
  refine PyProof.Rows.sorted_strsAny hl.isList rv.strs (by rw [← l0]; exact hlen) fun out ys h1 h2 h3 => ?_
  obtain ⟨ep, he'⟩ := PyProof.Rows.sortedAll_at s.heap its out
  rw [sortT_of h2 h3] at h1
  exact ⟨.ref _, upd H (s.heap.objs.size + 1) (.lst ((sortT xs).map V.str)), I.laid (t' := s.toks) (fun _ _ => PyProof.Rows.sortedAll_old) (Nat.le_succ _) ⟨by rw [List.length_map, sortT_len]; exact hlen, out.toList, ep, vals_of_strs h1, he'⟩, rfl, q _ (I.hok.fresh (Nat.le_succ _))⟩
end
end
/-! ### set(texts) -/
section
open PySem PySem.Spec PyProof.Rows
def setT (xs : List Str) : List Str := xs.foldl (fun l k => addT k l) []
theorem setT_go : ∀ (xs l : List Str), (∀ k, k ∈ xs.foldl (fun l k => addT k l) l ↔ k ∈ l ∨ k ∈ xs) ∧ (l.Nodup → (xs.foldl (fun l k => addT k l) l).Nodup) ∧ (xs.foldl (fun l k => addT k l) l).length ≤ l.length + xs.length
  | [], l => ⟨fun k => by simp, id, by simp⟩
  | x :: r, l => by
    obtain ⟨h1, h2, h3⟩ := setT_go r (addT x l)
    refine ⟨fun k => ?_, fun h => h2 (addT_nd h), ?_⟩
    · rw [List.foldl_cons, h1 k, addT_mem, List.mem_cons]
      constructor
      · rintro ((h | h) | h)
        · exact .inr (.inl h)
        · exact .inl h
        · exact .inr (.inr h)
      · rintro (h | h | h)
        · exact .inl (.inr h)
        · exact .inl (.inl h)
        · exact .inr h
    · rw [List.foldl_cons, List.length_cons]
      have := addT_len (k := x) (l := l)
      omega
theorem setT_mem {xs : List Str} {k : Str} : k ∈ setT xs ↔ k ∈ xs := by
  have := (setT_go xs []).1 k
  simpa [setT] using this
theorem setT_nd {xs : List Str} : (setT xs).Nodup := (setT_go xs []).2.1 List.nodup_nil
theorem setT_len {xs : List Str} : (setT xs).length ≤ xs.length := by
  have := (setT_go xs []).2.2
  simpa [setT] using this
theorem setT_take {xs : List Str} {i : Nat} {k : Str} (h : xs[i]? = some k) : setT (xs.take (i + 1)) = addT k (setT (xs.take i)) := by
  unfold setT
  rw [List.take_add_one, h, List.foldl_append]; rfl
theorem sortT_set {xs ys : List Str} (h : ∀ k, k ∈ xs ↔ k ∈ ys) : sortT (setT xs) = sortT (setT ys) := sortT_congr (nd_perm setT_nd setT_nd fun k => by rw [setT_mem, setT_mem]; exact h k)
/-- an empty set's object -/
abbrev set0 (w : World) : Obj := { cls := .type "set", dict := none, data := .set #[] 0 (.fresh 0 0 (!w.params.followText "set-order")) }
theorem TSet.first {w : World} {h : Heap} {a : Addr} (ho : h.get? a = some (set0 w)) : TSet w h a [] := by
  refine ⟨_, #[], 0, _, ho, ⟨rfl, rfl, rfl⟩, rfl, (fun e he => by simp at he), by simp, List.nodup_nil, by decide, by rfl, List.Pairwise.nil, ?_⟩
  show _ ∨ (!w.params.followText "set-order") = true
  cases w.params.followText "set-order" <;> simp
section
variable {P : Program} {w : World} {A : Around} {E : Value → Shared → Prop} {s : Shared}
theorem ts_update {I : Addr} {fp wr : List Addr} {G : Array GenState → Array GenState → Prop} {n : Nat} {Pv : Nat → Value → Prop} {St : Nat → Shared → Prop} {R : Result → Shared → Prop}
    (W : WalksS P w A.in1 I fp wr G n Pv St) (S : Addr) (hSf : S ∉ fp) (xs : List Str) (hn : n = xs.length) (hb : xs.length + 1 < scanBound) (hval : ∀ i v, Pv i v → ∃ k t, xs[i]? = some k ∧ v = .str k t) :
    ∀ (k i : Nat) (s : Shared), n - i = k → i ≤ n → St i s → TSet w s.heap S (setT (xs.take i)) → (∀ s', Moved (S :: wr) G s s' → TSet w s'.heap S (setT xs) → R (.ok (.ret .none)) s') →
      codeAny (model P w) A (.builtin "set.update.loop" ⟨[.ref S, .ref I], []⟩) R s := by
  have nw : S ∉ wr := fun h => hSf (W.sub _ h)
  have inc : ∀ b ∈ wr, b ∈ S :: wr := fun b hb => List.mem_cons_of_mem _ hb
  intro k
  induction k with
  | zero =>
    intro i s hk hi st hS hR
    obtain rfl : i = n := by omega
    refine codeAny_builtin F.entry_set_update_loop ?_
    rw [Around.under_plainId F.plain_set_update_loop _]
    show wpAny _ A.in1 (pyNext (.ref I) >>= _) _ _ s
    refine wpAny_bind (W.done s _ _ st fun s' hm => ?_)
    rw [List.take_of_length_le (by omega)] at hS
    exact wpAny_pure (hR s' (hm.mono inc) (hS.at fun o e => hm.heap S o nw e))
  | succ k ih =>
    intro i s hk hi st hS hR
    have lt : i < n := by omega
    refine codeAny_builtin F.entry_set_update_loop ?_
    rw [Around.under_plainId F.plain_set_update_loop _]
    show wpAny _ A.in1 (pyNext (.ref I) >>= _) _ _ s
    refine wpAny_bind (W.item i s _ _ lt st fun v s' hP st' hm => ?_)
    obtain ⟨z, t, hz, rfl⟩ := hval i v hP
    have hS' := hS.at (h' := s'.heap) fun o e => hm.heap S o nw e
    have hl : (setT (xs.take i)).length + 1 < scanBound := by
      have h1 := setT_len (xs := xs.take i)
      rw [List.length_take] at h1
      omega
    show wpAny _ A.in1 (holding [Value.str z t] (setAdd S (.str z t)) >>= _) _ _ s'
    refine wpAny_bind (wpAny_holding ?_)
    unfold setAdd
    refine wpAny_holding (wpAny_bind ((PySem.strKind P w).pyHash (k := z) (str_isS z t) (ts_addH (s := { s' with toks := s'.toks + 1 }) hS' hl fun h' b sb hS2 => ?_)))
    rw [← setT_take hz] at hS2
    refine wpAny_pure ⟨plainId_quiet F.plain_set_update_loop _, ih (i + 1) _ (by omega) lt (W.frame _ s' _ _ st' (Nat.le_succ _) fun b hb o e => ?_) hS2 fun s2 m2 q2 => ?_⟩
    · rw [sb.2 b (fun h : b = S => hSf (h ▸ hb))]; exact e
    · refine hR s2 (Moved.trans W.gtrans ((hm.mono inc).then_heap (Nat.le_succ _) fun b o hb e => ?_) m2) q2
      rw [sb.2 b (fun h : b = S => hb (h ▸ List.mem_cons_self))]; exact e
theorem strs_at : ∀ {vs : List Value} {xs : List Str}, StrsAre vs xs → ∀ {i : Nat} {v : Value}, vs[i]? = some v → ∃ k t, xs[i]? = some k ∧ v = .str k t
  | _, _, .nil, i, v, h => by simp at h
  | _, _, .cons y t r, i, v, h => by
    cases i with
    | zero =>
      cases h
      exact ⟨y, t, rfl, rfl⟩
    | succ i => exact strs_at r h
theorem strs_len : ∀ {vs : List Value} {xs : List Str}, StrsAre vs xs → vs.length = xs.length
  | _, _, .nil => rfl
  | _, _, .cons y t r => congrArg Nat.succ (strs_len r)
end
section
variable {X : Cx}
/-- len(found) -/
theorem cr_lenTS : CallR X (.builtin "len") (fun vs H Q => ∃ (a : Addr) (l : List Str), vs = [V.ref a] ∧ H a = some (TSO X.w a l) ∧ Q (.int (l.length : Int)) H) := by
  intro pins s σ H vs us Q I r h
  obtain ⟨a, l, rfl, ha, q⟩ := h
  rw [Vals.ref1 r]
  obtain ⟨o, es, ep, t, ho, hex, hd, T⟩ := tso_get I ha
  have hs := T.size
  have hf := T.few
  have h4 : scanBound = 4096 := rfl
  refine PySem.call_len_set ho hex hd T.fit (by omega) ⟨.int _, H, I.tok _, ?_, q⟩
  rw [hs]
  exact ⟨_, rfl⟩
end
end
/-! ### own classes: o[i], o[i] = v, x in o -/
section
open PySem PySem.Spec PyProof.Rows
variable {X : Cx} {CX : CXT} {k : Nat} {C f a dx : Addr} {fs : List (Str × V)} {fd : FuncData} {ps : List Str} {sp : Sp} {E : L2.St → XK} {pins : List (Addr × Obj)} {σ : L2.St} {H : Hp} {s : Shared}
theorem own_at (I : Inv X pins σ H s) (ea : H a = some (.ins C dx fs)) : ∃ od, PySem.W.InstAt s.heap a (PySem.W.instObj C dx) C (some od) := by
  obtain ⟨mA, O, _⟩ := ins_get I.hok ea
  obtain ⟨od, J, _⟩ := O.look
  exact ⟨od, J⟩
/-- a method of the class, called below the place -/
theorem run_in1 {us : List Value} {vs : List V} {Q : VK} (F : FnOk X.prog X.w X.K X.mg X.base CX k f fd ps sp) (hr : Room (k + 1) X.A) (hb : L2.Binds X.K fd ps []) (hx : PassesAt CX X σ (E σ)) (I : Inv X pins σ H s) (r : Vals vs us) (h : sp vs H Q (E σ)) :
    wpAny (model X.prog X.w) X.A.in1 (call (.ref f) us) (EP X pins σ Q) X.xe s := by
  have hl : (us ++ []).length = ps.length := by rw [List.append_nil, ← r.length]; exact F.len _ _ _ _ h
  have b := hb s us I.kIn hl
  rw [List.append_nil] at b
  refine wpAny_call (codeAny_mono (F.run X.A.in1 X.stack s H ⟨us, []⟩ us vs Q (E σ) hr.in1 I.env0.in1 b r h) fun q s' hq => ?_)
  match q, hq with
  | .error e, hq => exact hx pins H s e s' I hq
  | .ok (.ret u), hq => exact I.after hq
  | .ok .next, hq => exact hq.elim
  | .ok .brk, hq => exact hq.elim
  | .ok .cont, hq => exact hq.elim
theorem run_here {us : List Value} {vs : List V} {Q : VK} (F : FnOk X.prog X.w X.K X.mg X.base CX k f fd ps sp) (hr : Room k X.A) (hb : L2.Binds X.K fd ps []) (hx : PassesAt CX X σ (E σ)) (I : Inv X pins σ H s) (r : Vals vs us) (h : sp vs H Q (E σ)) :
    wpAny (model X.prog X.w) X.A (call (.ref f) us) (EP X pins σ Q) X.xe s := by
  have e0 : vs ++ ([] : List V) = vs := List.append_nil vs
  exact run_fnSD (dvs := []) F hr hb .nil hx I r (e0.symm ▸ h)
def tGetO (C : Addr) (sp : Sp) (E : L2.St → XK) (ta tb : TE) : TE := fun σ H Q => ta σ H fun x H1 => tb σ H1 fun y H2 => ∃ a dx fs, x = .ref a ∧ H2 a = some (.ins C dx fs) ∧ sp [.ref a, y] H2 Q (E σ)
theorem pe_getO {o i : Expr} {ta tb : TE} {pos : Pos} (ho : PE X o ta) (hi : PE X i tb) (hm : Meth X.K C "__getitem__" f) (hfn : PySem.W.fnIn X.K f = true) (F : FnOk X.prog X.w X.K X.mg X.base CX k f fd ps sp) (hr : Room (k + 1) X.A) (hb : L2.Binds X.K fd ps []) (hx : ∀ σ, PassesAt CX X σ (E σ))
    (hsl : ∀ v u, subscripted i true v u = runValue (.builtin "lifetime.subscript" ⟨[v, u], []⟩) := by intro _ _; with_unfolding_all rfl) : PE X (.Subscript o i pos) (tGetO C sp E ta tb) := by
  refine ⟨fun pins s σ H Q I h => ?_⟩
  refine Subscript_ (binT ho hi I h fun v u s2 x y H2 I2 rx ry q => ?_)
  obtain ⟨a, dx, fs, rfl, ea, q⟩ := q
  cases (show v = Value.ref a from rx)
  obtain ⟨od, J⟩ := own_at I2 ea
  have fi := hm.fn
  unfold PySem.W.fnIn at hfn
  split at hfn
  · rename_i e
    unfold subscriptTail getitemInPython
    refine wpAny_bind (wpAny_bind (wpAny_bind (J.type.here ((PySem.W.looks_findIn I2.kIn hm.at_).here ?_))))
    dsimp only
    refine wpAny_bind (wpAny_load (I2.kIn _ _ e) (wpAny_pure ?_))
    dsimp only
    rw [hsl]
    refine wpAny_bind (wpAny_runValue (codeAny_builtin PySem.W.entry_sub ?_))
    unfold Builtin.«lifetime.subscript»
    refine wpAny_bind (PySem.W.special_fn I2.kIn J hm.at_ (beq_iff_eq.mp fi) (wpAny_mono (run_in1 F hr hb (hx σ) I2 (vs := [.ref a, y]) (.cons rfl (.cons ry .nil)) q) (fun z s3 hz => wpAny_pure ?_) fun _ _ z => z))
    show wpAny (model X.prog X.w) X.A (letTemporaryGo o (.ref a) z >>= fun _ => pure z) _ _ s3
    exact wpAny_bind (wpAny_letTemporaryGo (wpAny_pure hz))
  · cases hfn
def gSetO (C : Addr) (sp : Sp) (E : L2.St → XK) (to ti : TE) : TG := fun v σ H Q => to σ H fun o H1 => ti σ H1 fun i H2 => ∃ a dx fs, o = .ref a ∧ H2 a = some (.ins C dx fs) ∧ sp [.ref a, i, v] H2 (fun _ H3 => Q σ H3) (E σ)
theorem pg_setO {o i : Expr} {to ti : TE} {pos : Pos} (ho : PE X o to) (hi : PE X i ti) (hm : Meth X.K C "__setitem__" f) (hq : PySem.W.noSeq X.K C = true) (F : FnOk X.prog X.w X.K X.mg X.base CX k f fd ps sp) (hr : Room k X.A) (hb : L2.Binds X.K fd ps []) (hx : ∀ σ, PassesAt CX X σ (E σ))
    (ha : ∀ v, assign (.Subscript o i pos) X.env v = (do
      let ov ← holding [v] (eval o X.env)
      let iv ← holding [v, ov] (eval i X.env)
      standAt pos
      holding [v, ov, iv] (setItem ov iv v)
      release [v, ov, iv] []) := by intro _; rfl) : PG X (.Subscript o i pos) (gSetO C sp E to ti) := by
  refine ⟨fun pins s σ H v u Q I r h => ?_⟩
  rw [ha]
  refine wpAny_bind (wpAny_holding (thn (ho.run pins s σ H _ I h) fun ov s1 ⟨x, H1, I1, r1, q1⟩ => wpAny_bind (wpAny_holding (thn (hi.run pins s1 σ H1 _ I1 q1) fun iv s2 ⟨y, H2, I2, r2, a, dx, fs, ex, ea, q2⟩ => ?_))))
  subst ex
  cases (show ov = Value.ref a from r1)
  obtain ⟨od, J⟩ := own_at I2 ea
  refine wpAny_bind (wpAny_standAt (wpAny_bind (wpAny_holding ?_)))
  unfold setItem sequenceKey
  refine wpAny_holding (wpAny_bind (wpAny_bind (J.type.here (wpAny_bind ((PySem.W.anyM_none I2.kIn hq).here ?_)))))
  rw [if_pos (show (!false) = true from rfl)]
  refine wpAny_pure (wpAny_bind (PySem.W.special_fn I2.kIn J hm.at_ (beq_iff_eq.mp hm.fn) (wpAny_mono (run_here F hr hb (hx σ) I2 (vs := [.ref a, y, v]) (.cons rfl (.cons r2 (.cons r .nil))) q2) (fun z s3 hz => wpAny_pure ?_) fun _ _ z => z)))
  obtain ⟨_, H3, I3, _, q3⟩ := hz
  exact wpAny_release ⟨σ, H3, I3, q3⟩
/-- x in o; x not in o: __contains__ gives a truth value -/
def rInO (C : Addr) (neg : Bool) (sp : Sp) : R2 := fun x y H Q => ∃ a dx fs, y = .ref a ∧ H a = some (.ins C dx fs) ∧ sp [.ref a, x] H (fun v H' => ∃ b, v = .bl b ∧ Q (.bl (if neg = true then !b else b)) H') E0
theorem has_own {Q : Bool → Shared → Prop} {x : V} {v : Value} (I : Inv X pins σ H s) (rx : RelV x v) (ea : H a = some (.ins C dx fs)) (hm : Meth X.K C "__contains__" f) (F : FnOk X.prog X.w X.K X.mg X.base CX0 k f fd ps sp) (hr : Room k X.A) (hb : L2.Binds X.K fd ps []) {Qb : Bool → Hp → Prop}
    (h : sp [.ref a, x] H (fun v H' => ∃ b, v = .bl b ∧ Qb b H') E0) (hQ : ∀ b s' H', Inv X pins σ H' s' → Qb b H' → Q b s') : wpAny (model X.prog X.w) X.A (contains (.ref a) v) Q X.xe s := by
  obtain ⟨od, J⟩ := own_at I ea
  unfold contains
  refine wpAny_holding (wpAny_bind (wpAny_bind (J.type.here ((PySem.W.looks_findIn I.kIn hm.at_).here ?_))))
  rw [if_neg (by simp)]
  refine wpAny_bind (PySem.W.unlessNone_K I.kIn J hm.at_ hm.fn (wpAny_mono (run_here (E := fun _ => E0) F hr hb (fun _ _ _ _ _ _ z => z.elim) I (vs := [.ref a, x]) (.cons rfl (.cons rx .nil)) h) (fun z s3 hz => ?_) fun _ _ z => z))
  obtain ⟨w, H3, I3, rw', b, rfl, q⟩ := hz
  cases (show z = Value.bool b from rw')
  exact wpAny_truthy_bool (hQ b s3 H3 I3 q)
theorem op_inO (hm : Meth X.K C "__contains__" f) (F : FnOk X.prog X.w X.K X.mg X.base CX0 k f fd ps sp) (hr : Room k X.A) (hb : L2.Binds X.K fd ps []) : OpR X (compareOp .In) (rInO C false sp) := by
  intro pins s σ H x y v u Q I rx ry h
  obtain ⟨a, dx, fs, rfl, ea, q⟩ := h
  cases (show u = Value.ref a from ry)
  exact wpAny_bind (has_own I rx ea hm F hr hb (Qb := fun b H' => Q (.bl b) H') q fun b s' H' I' q' => wpAny_pure ⟨.bl b, H', I', rfl, q'⟩)
theorem op_notInO (hm : Meth X.K C "__contains__" f) (F : FnOk X.prog X.w X.K X.mg X.base CX0 k f fd ps sp) (hr : Room k X.A) (hb : L2.Binds X.K fd ps []) : OpR X (compareOp .NotIn) (rInO C true sp) := by
  intro pins s σ H x y v u Q I rx ry h
  obtain ⟨a, dx, fs, rfl, ea, q⟩ := h
  cases (show u = Value.ref a from ry)
  exact wpAny_bind (has_own I rx ea hm F hr hb (Qb := fun b H' => Q (.bl (!b)) H') q fun b s' H' I' q' => wpAny_pure ⟨.bl (!b), H', I', rfl, q'⟩)
end
/-! ### rules within a comprehension: the text's K by name -/
section
variable {X : Cx} {K : PySem.W.Frag}
theorem pe_fldK {o : Expr} {f : Str} {pos : Pos} {ta : TE} (hK : X.K = K) (ho : PE X o ta) (hab : attributeBase o f X.env (eval o X.env) = eval o X.env) : PE X (.Attribute o f pos) (tFld K ta f) := hK ▸ pe_fld ho hab
theorem op_inK (hK : X.K = K) : OpR X (compareOp .In) (rIn K false) := hK ▸ op_in_seq
theorem op_notInK (hK : X.K = K) : OpR X (compareOp .NotIn) (rIn K true) := hK ▸ op_notIn_seq
theorem ix_listK (hK : X.K = K) : IxR X (rIxL K) := hK ▸ ix_list
theorem ix_tupK (hK : X.K = K) : IxR X (rIxT K) := hK ▸ ix_tup
theorem op_eqDK (hK : X.K = K) (hu : X.A.units + 64 < cLine) : OpR X (compareOp .Eq) (rEqD K) := hK ▸ op_eqD hu
theorem op_neDK (hK : X.K = K) (hu : X.A.units + 64 < cLine) : OpR X (compareOp .NotEq) (rNeD K) := hK ▸ op_neD hu
end
/-! ### lists, the last item first -/
def rv {α : Type} (f : α → V) (l : List α) : List V := (l.map f).reverse
section
variable {α : Type} {f : α → V} {x y : α} {l : List α}
theorem rv_cons : rv f (x :: l) = rv f l ++ [f x] := by simp [rv]
theorem rv_len : (rv f l).length = l.length := by simp [rv]
theorem rv_at : atI (rv f (x :: l)) (-1) = some (f x) := by
  unfold atI ixN
  rw [rv_cons]
  have h1 : ¬ (0 : Int) ≤ -1 := by omega
  have h2 : -((rv f l ++ [f x]).length : Int) ≤ -1 := by rw [List.length_append]; simp; omega
  have h3 : ((-1 : Int) + ((rv f l ++ [f x]).length : Int)).toNat = (rv f l).length := by rw [List.length_append, List.length_singleton]; omega
  simp only [h1, if_false, h2, if_true, Option.bind_some, h3]
  rw [List.getElem?_append_right (Nat.le_refl _), Nat.sub_self]; rfl
theorem rv_ix : ixN (rv f (x :: l)).length (-1) = some l.length := by
  unfold ixN
  rw [rv_len]
  have h1 : ¬ (0 : Int) ≤ -1 := by omega
  have h2 : -((x :: l).length : Int) ≤ -1 := by rw [List.length_cons]; omega
  have h3 : ((-1 : Int) + ((x :: l).length : Int)).toNat = l.length := by rw [List.length_cons]; omega
  simp only [h1, if_false, h2, if_true, h3]
theorem rv_set : (rv f (x :: l)).set l.length (f y) = rv f (y :: l) := by
  rw [rv_cons, rv_cons, ← rv_len (f := f) (l := l), List.set_append_right _ _ (Nat.le_refl _), Nat.sub_self]; rfl
theorem rv_pop : (rv f (x :: l))[(rv f (x :: l)).length - 1]? = some (f x) := by
  rw [rv_len, rv_cons, List.length_cons, Nat.add_sub_cancel, ← rv_len (f := f) (l := l), List.getElem?_append_right (Nat.le_refl _), Nat.sub_self]; rfl
theorem rv_drop : (rv f (x :: l)).dropLast = rv f l := by
  rw [rv_cons, List.dropLast_concat]
end
inductive All2 {α β : Type} (R : α → β → Prop) : List α → List β → Prop
  | nil : All2 R [] []
  | cons {x y l m} : R x y → All2 R l m → All2 R (x :: l) (y :: m)
theorem All2.imp {α β : Type} {R S : α → β → Prop} {l : List α} {m : List β} (a : All2 R l m) (h : ∀ x y, x ∈ l → R x y → S x y) : All2 S l m := by
  induction a with
  | nil => exact .nil
  | cons r _ ih => exact .cons (h _ _ List.mem_cons_self r) (ih fun x y hx => h x y (List.mem_cons_of_mem _ hx))
theorem All2.mem {α β : Type} {R : α → β → Prop} {l : List α} {m : List β} (a : All2 R l m) {x : α} (h : x ∈ l) : ∃ y, y ∈ m ∧ R x y := by
  induction a with
  | nil => cases h
  | cons r _ ih =>
    rcases List.mem_cons.mp h with rfl | h
    · exact ⟨_, List.mem_cons_self, r⟩
    · obtain ⟨y, h1, h2⟩ := ih h
      exact ⟨y, List.mem_cons_of_mem _ h1, h2⟩
theorem All2.len {α β : Type} {R : α → β → Prop} {l : List α} {m : List β} (a : All2 R l m) : l.length = m.length := by
  induction a with
  | nil => rfl
  | cons _ _ ih => rw [List.length_cons, List.length_cons, ih]
/-! ### a database: its state, where it lies -/
structure Tx where
  num : Int
  rs : List (Option Str)
structure Row where
  rcd : Str
  val : V
  fate : Str
  holder : Int
  level : Int
structure Db where
  rows : List Row
  stack : List (Option Tx)
  entered : List Str
  floor : Int
  opened : Int
structure TxL where
  t : Addr
  dt : Addr
  q : Addr
structure Lay where
  db : Addr
  dx : Addr
  r : Addr
  s : Addr
  e : Addr
  ws : List (Addr × Addr)
  ts : List (Option TxL)
def oV : Option Str → V
  | none => .non
  | some z => .str z
def tV : Option TxL → V
  | none => .non
  | some t => .ref t.t
abbrev dbF (r s e : Addr) (f o : Int) : List (Str × V) := [("rows", .ref r), ("stack", .ref s), ("entered", .ref e), ("floor", .int f), ("opened", .int o)]
abbrev txF (n : Int) (q : Addr) : List (Str × V) := [("number", .int n), ("reasons", .ref q)]
abbrev rwF (w : Row) : List (Str × V) := [("record", .str w.rcd), ("value", w.val), ("fate", .str w.fate), ("holder", .int w.holder), ("level", .int w.level)]
def TxAt (aT : Addr) (H : Hp) : Option TxL → Option Tx → Prop
  | none, none => True
  | some t, some x => H t.t = some (.ins aT t.dt (txF x.num t.q)) ∧ H t.q = some (.lst (rv oV x.rs)) ∧ x.rs ≠ []
  | _, _ => False
def RowAt (aW : Addr) (H : Hp) (w : Addr × Addr) (x : Row) : Prop := H w.1 = some (.ins aW w.2 (rwF x))
structure DbAt (aD aT aW : Addr) (H : Hp) (L : Lay) (D : Db) : Prop where
  db : H L.db = some (.ins aD L.dx (dbF L.r L.s L.e D.floor D.opened))
  r : H L.r = some (.lst (L.ws.map fun w => .ref w.1))
  s : H L.s = some (.lst (rv tV L.ts))
  e : H L.e = some (.lst (rv V.str D.entered))
  rows : All2 (RowAt aW H) L.ws D.rows
  txs : All2 (TxAt aT H) L.ts D.stack
  rs : L.r ≠ L.s
  re : L.r ≠ L.e
  se : L.s ≠ L.e
  qn : ∀ t, some t ∈ L.ts → t.q ≠ L.r ∧ t.q ≠ L.s ∧ t.q ≠ L.e
  qd : L.ts.Pairwise fun x y => ∀ t u, x = some t → y = some u → t.q ≠ u.q
  wd : L.ws.Pairwise fun x y => x.1 ≠ y.1
  ne : D.stack ≠ []
/-- what may change -/
def Mut (L : Lay) (b : Addr) : Prop := b = L.db ∨ b = L.r ∨ b = L.s ∨ b = L.e ∨ (∃ t, some t ∈ L.ts ∧ b = t.q) ∨ ∃ w, w ∈ L.ws ∧ b = w.1
/-- all of it -/
def Foot (L : Lay) (b : Addr) : Prop := Mut L b ∨ ∃ t, some t ∈ L.ts ∧ b = t.t
structure Fr (H H' : Hp) (L L' : Lay) : Prop where
  kp : Kp (Mut L) H H'
  mt : ∀ b, Mut L' b → Mut L b ∨ H b = none
  db : L'.db = L.db
theorem Fr.refl {H : Hp} {L : Lay} : Fr H H L L := ⟨Kp.refl, fun _ h => .inl h, rfl⟩
theorem Fr.trans {H H1 H2 : Hp} {L L1 L2 : Lay} (a : Fr H H1 L L1) (b : Fr H1 H2 L1 L2) : Fr H H2 L L2 := by
  refine ⟨fun c u h n => ?_, fun c h => ?_, b.db.trans a.db⟩
  · refine b.kp c u (a.kp c u h n) fun z => ?_
    rcases a.mt c z with z | z
    · exact n z
    · rw [z] at h; cases h
  · rcases b.mt c h with z | z
    · exact a.mt c z
    · cases e : H c with
      | none => exact .inr rfl
      | some u =>
        by_cases hm : Mut L c
        · exact .inl hm
        · rw [a.kp c u e hm] at z; cases z
theorem Fr.of_kp {H H' : Hp} {L : Lay} (k : Kp (Mut L) H H') : Fr H H' L L := ⟨k, fun _ h => .inl h, rfl⟩
theorem Fr.new {H H' : Hp} {L L' : Lay} {p : Addr} {o : HO} (a : Fr H H' L L') (h : H' p = none) : Fr H (upd H' p o) L L' := ⟨a.kp.new h, a.mt, a.db⟩
/-- q is none of what may change -/
theorem Fr.out {H H' : Hp} {L L' : Lay} {b : Addr} {u : HO} (a : Fr H H' L L') (h : H b = some u) (n : ¬ Mut L b) : ¬ Mut L' b := fun z => by
  rcases a.mt b z with z | z
  · exact n z
  · rw [h] at z; cases z
section
variable {aD aT aW : Addr} {H H' : Hp} {L : Lay} {D : Db}
theorem TxAt.keep {x : Option TxL} {y : Option Tx} (h : TxAt aT H x y) (k : ∀ t, x = some t → (∀ u, H t.t = some u → H' t.t = some u) ∧ ∀ u, H t.q = some u → H' t.q = some u) : TxAt aT H' x y := by
  cases x with
  | none => cases y with
    | none => trivial
    | some y => exact h
  | some t => cases y with
    | none => exact h
    | some y =>
      obtain ⟨h1, h2, h3⟩ := h
      obtain ⟨k1, k2⟩ := k t rfl
      exact ⟨k1 _ h1, k2 _ h2, h3⟩
theorem DbAt.keep (h : DbAt aD aT aW H L D) (k : ∀ b u, Foot L b → H b = some u → H' b = some u) : DbAt aD aT aW H' L D := by
  refine ⟨k _ _ (.inl (.inl rfl)) h.db, k _ _ (.inl (.inr (.inl rfl))) h.r, k _ _ (.inl (.inr (.inr (.inl rfl)))) h.s, k _ _ (.inl (.inr (.inr (.inr (.inl rfl))))) h.e, ?_, ?_, h.rs, h.re, h.se, h.qn, h.qd, h.wd, h.ne⟩
  · exact h.rows.imp fun w x hw hx => k _ _ (.inl (.inr (.inr (.inr (.inr (.inr ⟨w, hw, rfl⟩)))))) hx
  · refine h.txs.imp fun x y hx hy => hy.keep fun t et => ?_
    subst et
    exact ⟨fun u => k _ u (.inr ⟨t, hx, rfl⟩), fun u => k _ u (.inl (.inr (.inr (.inr (.inr (.inl ⟨t, hx, rfl⟩))))))⟩
theorem DbAt.new {p : Addr} {o : HO} (h : DbAt aD aT aW H L D) (hp : H p = none) : DbAt aD aT aW (upd H p o) L D := h.keep fun b u _ e => upd_old e hp
theorem DbAt.tx (h : DbAt aD aT aW H L D) {t : TxL} (m : some t ∈ L.ts) : ∃ x : Tx, H t.t = some (.ins aT t.dt (txF x.num t.q)) ∧ H t.q = some (.lst (rv oV x.rs)) ∧ x.rs ≠ [] := by
  obtain ⟨y, _, hy⟩ := h.txs.mem m
  cases y with
  | none => exact hy.elim
  | some x => exact ⟨x, hy⟩
theorem DbAt.row (h : DbAt aD aT aW H L D) {w : Addr × Addr} (m : w ∈ L.ws) : ∃ x : Row, H w.1 = some (.ins aW w.2 (rwF x)) := by
  obtain ⟨y, _, hy⟩ := h.rows.mem m
  exact ⟨y, hy⟩
/-- what may change, is there -/
theorem DbAt.mut (h : DbAt aD aT aW H L D) {b : Addr} (m : Mut L b) : ∃ u, H b = some u := by
  rcases m with rfl | rfl | rfl | rfl | ⟨t, m, rfl⟩ | ⟨w, m, rfl⟩
  · exact ⟨_, h.db⟩
  · exact ⟨_, h.r⟩
  · exact ⟨_, h.s⟩
  · exact ⟨_, h.e⟩
  · obtain ⟨x, _, h2, _⟩ := h.tx m
    exact ⟨_, h2⟩
  · obtain ⟨x, h1⟩ := h.row m
    exact ⟨_, h1⟩
theorem DbAt.fresh (h : DbAt aD aT aW H L D) {b : Addr} (e : H b = none) : ¬ Mut L b := fun z => by
  obtain ⟨u, e2⟩ := h.mut z
  rw [e] at e2; cases e2
/-- a list that is none of its own changes -/
theorem DbAt.oth {p : Addr} {o : HO} {xs : List V} (h : DbAt aD aT aW H L D) (hp : H p = some (.lst xs)) (n : ¬ Mut L p) : DbAt aD aT aW (upd H p o) L D := h.keep fun b u f e => by
  refine upd_oth (fun z => ?_) e
  subst z
  rcases f with f | ⟨t, m, rfl⟩
  · exact n f
  · obtain ⟨x, h1, _⟩ := h.tx m
    rw [hp] at h1; cases h1
theorem DbAt.mutE : Mut L L.e := .inr (.inr (.inr (.inl rfl)))
theorem DbAt.mutS : Mut L L.s := .inr (.inr (.inl rfl))
theorem DbAt.mutD : Mut L L.db := .inl rfl
theorem DbAt.mutQ {t : TxL} (h : some t ∈ L.ts) : Mut L t.q := .inr (.inr (.inr (.inr (.inl ⟨t, h, rfl⟩))))
theorem ins_ne {b p C dx : Addr} {fs : List (Str × V)} {xs : List V} (h1 : H b = some (.ins C dx fs)) (h2 : H p = some (.lst xs)) : b ≠ p := fun z => by
  rw [z, h2] at h1; cases h1
theorem DbAt.rowsQ {p : Addr} {o : HO} {xs : List V} (h : DbAt aD aT aW H L D) (hp : H p = some (.lst xs)) : All2 (RowAt aW (upd H p o)) L.ws D.rows :=
  h.rows.imp fun w x hw hx => upd_oth (ins_ne hx hp) hx
theorem DbAt.txsQ {p : Addr} {o : HO} {xs : List V} (h : DbAt aD aT aW H L D) (hp : H p = some (.lst xs)) (n : ∀ t, some t ∈ L.ts → t.q ≠ p) : All2 (TxAt aT (upd H p o)) L.ts D.stack :=
  h.txs.imp fun x y hx hy => hy.keep fun t et => by
    subst et
    obtain ⟨z, h1, _⟩ := h.tx hx
    exact ⟨fun u e => upd_oth (ins_ne h1 hp) e, fun u e => upd_oth (n t hx) e⟩
theorem DbAt.setE (h : DbAt aD aT aW H L D) (es : List Str) : DbAt aD aT aW (upd H L.e (.lst (rv V.str es))) L { D with entered := es } :=
  ⟨upd_oth (ins_ne h.db h.e) h.db, upd_oth h.re h.r, upd_oth h.se h.s, upd_same, h.rowsQ h.e, h.txsQ h.e fun t m => (h.qn t m).2.2, h.rs, h.re, h.se, h.qn, h.qd, h.wd, h.ne⟩
theorem DbAt.setS (h : DbAt aD aT aW H L D) {ts : List (Option TxL)} {st : List (Option Tx)} (a : All2 (TxAt aT (upd H L.s (.lst (rv tV ts)))) ts st) (qn : ∀ t, some t ∈ ts → t.q ≠ L.r ∧ t.q ≠ L.s ∧ t.q ≠ L.e) (qd : ts.Pairwise fun x y => ∀ t u, x = some t → y = some u → t.q ≠ u.q) (ne : st ≠ []) :
    DbAt aD aT aW (upd H L.s (.lst (rv tV ts))) { L with ts := ts } { D with stack := st } :=
  ⟨upd_oth (ins_ne h.db h.s) h.db, upd_oth h.rs h.r, upd_same, upd_oth (Ne.symm h.se) h.e, h.rowsQ h.s, a, h.rs, h.re, h.se, qn, qd, h.wd, ne⟩
theorem DbAt.pushN (h : DbAt aD aT aW H L D) : DbAt aD aT aW (upd H L.s (.lst (rv tV (none :: L.ts)))) { L with ts := none :: L.ts } { D with stack := none :: D.stack } := by
  refine h.setS (.cons trivial (h.txsQ h.s fun t m => (h.qn t m).2.1)) (fun t m => ?_) ?_ (by simp)
  · rcases List.mem_cons.mp m with m | m
    · cases m
    · exact h.qn t m
  · exact List.pairwise_cons.mpr ⟨fun y _ t u e => (by cases e), h.qd⟩
theorem DbAt.pushT (h : DbAt aD aT aW H L D) {t : TxL} {n : Int} {rs : List (Option Str)} (h1 : H t.t = some (.ins aT t.dt (txF n t.q))) (h2 : H t.q = some (.lst (rv oV rs))) (hr : rs ≠ []) (hn : ¬ Mut L t.q) :
    DbAt aD aT aW (upd H L.s (.lst (rv tV (some t :: L.ts)))) { L with ts := some t :: L.ts } { D with stack := some ⟨n, rs⟩ :: D.stack } := by
  have ns : t.q ≠ L.s := fun z => hn (z ▸ DbAt.mutS)
  refine h.setS (.cons ⟨upd_oth (ins_ne h1 h.s) h1, upd_oth ns h2, hr⟩ (h.txsQ h.s fun t m => (h.qn t m).2.1)) (fun u m => ?_) ?_ (by simp)
  · rcases List.mem_cons.mp m with m | m
    · cases m
      exact ⟨fun z => hn (.inr (.inl z)), ns, fun z => hn (z ▸ DbAt.mutE)⟩
    · exact h.qn u m
  · refine List.pairwise_cons.mpr ⟨fun y hy u v e1 e2 z => ?_, h.qd⟩
    cases e1
    subst e2
    exact hn (z ▸ DbAt.mutQ hy)
theorem DbAt.popS {t : Option TxL} {ts : List (Option TxL)} {x : Option Tx} {st : List (Option Tx)} (h : DbAt aD aT aW H L D) (et : L.ts = t :: ts) (es : D.stack = x :: st) (ne : st ≠ []) :
    DbAt aD aT aW (upd H L.s (.lst (rv tV ts))) { L with ts := ts } { D with stack := st } := by
  have a : All2 (TxAt aT (upd H L.s (.lst (rv tV ts)))) (t :: ts) (x :: st) := by
    have := h.txsQ (o := .lst (rv tV ts)) h.s fun t m => (h.qn t m).2.1
    rw [et, es] at this; exact this
  cases a with
  | cons _ a =>
    refine h.setS a (fun u m => h.qn u (by rw [et]; exact List.mem_cons_of_mem _ m)) ?_ ne
    have := h.qd
    rw [et] at this
    exact (List.pairwise_cons.mp this).2
theorem DbAt.setD (h : DbAt aD aT aW H L D) (f o : Int) : DbAt aD aT aW (upd H L.db (.ins aD L.dx (dbF L.r L.s L.e f o))) L { D with floor := f, opened := o } := by
  refine ⟨upd_same, upd_oth (Ne.symm (ins_ne h.db h.r)) h.r, upd_oth (Ne.symm (ins_ne h.db h.s)) h.s, upd_oth (Ne.symm (ins_ne h.db h.e)) h.e, ?_, ?_, h.rs, h.re, h.se, h.qn, h.qd, h.wd, h.ne⟩
  · refine h.rows.imp fun w x hw hx => upd_oth (fun z => ?_) hx
    unfold RowAt at hx
    rw [z, h.db] at hx
    injection hx with hx
    injection hx with _ _ hx
    exact absurd (congrArg Prod.fst (List.cons.inj hx).1) (show ¬ (("rows" : Str) = "record") by decide +kernel)
  · refine h.txs.imp fun x y hx hy => hy.keep fun t et => ?_
    subst et
    obtain ⟨z, h1, h2, _⟩ := h.tx hx
    refine ⟨fun u e => upd_oth (fun z => ?_) e, fun u e => upd_oth (Ne.symm (ins_ne h.db h2)) e⟩
    rw [z, h.db] at h1
    injection h1 with h1
    injection h1 with _ _ h1
    exact absurd (congrArg List.length h1) (by simp)
theorem DbAt.setQ {t : TxL} {ts : List (Option TxL)} {x : Tx} {st : List (Option Tx)} {rs : List (Option Str)} (h : DbAt aD aT aW H L D) (et : L.ts = some t :: ts) (es : D.stack = some x :: st) (hr : rs ≠ []) :
    DbAt aD aT aW (upd H t.q (.lst (rv oV rs))) L { D with stack := some ⟨x.num, rs⟩ :: st } := by
  have mt : some t ∈ L.ts := by rw [et]; exact List.mem_cons_self
  have a := h.txs
  rw [et, es] at a
  cases a with
  | cons a0 a =>
    obtain ⟨h1, h2, h3⟩ := a0
    obtain ⟨n1, n2, n3⟩ := h.qn t mt
    have qd := h.qd
    rw [et] at qd
    obtain ⟨qd1, _⟩ := List.pairwise_cons.mp qd
    refine ⟨upd_oth (ins_ne h.db h2) h.db, upd_oth (Ne.symm n1) h.r, upd_oth (Ne.symm n2) h.s, upd_oth (Ne.symm n3) h.e, h.rowsQ h2, ?_, h.rs, h.re, h.se, h.qn, h.qd, h.wd, by simp⟩
    rw [et]
    refine .cons ⟨upd_oth (ins_ne h1 h2) h1, upd_same, hr⟩ (a.imp fun z y hz hy => hy.keep fun u eu => ?_)
    subst eu
    obtain ⟨z, k1, _⟩ := h.tx (t := u) (by rw [et]; exact List.mem_cons_of_mem _ hz)
    exact ⟨fun o e => upd_oth (ins_ne k1 h2) e, fun o e => upd_oth (fun z => qd1 _ hz t u rfl rfl z.symm) e⟩
theorem Fr.set {b : Addr} {o : HO} (m : Mut L b) : Fr H (upd H b o) L L := .of_kp (Kp.refl.set m)
theorem Mut.ts {ts : List (Option TxL)} {b : Addr} (h : Mut { L with ts := ts } b) (k : ∀ t, some t ∈ ts → b = t.q → Mut L b ∨ H b = none) : Mut L b ∨ H b = none := by
  rcases h with h | h | h | h | ⟨t, m, h⟩ | h
  · exact .inl (.inl h)
  · exact .inl (.inr (.inl h))
  · exact .inl (.inr (.inr (.inl h)))
  · exact .inl (.inr (.inr (.inr (.inl h))))
  · exact k t m h
  · exact .inl (.inr (.inr (.inr (.inr (.inr h)))))
theorem Fr.pushT {t : TxL} {o : HO} (k : Kp (Mut L) H H') (hq : H t.q = none) : Fr H (upd H' L.s o) L { L with ts := some t :: L.ts } := by
  refine ⟨k.set DbAt.mutS, fun b hb => hb.ts fun u m e => ?_, rfl⟩
  rcases List.mem_cons.mp m with m | m
  · cases m
    exact .inr (e ▸ hq)
  · exact .inl (e ▸ DbAt.mutQ m)
theorem Fr.pushN {o : HO} : Fr H (upd H L.s o) L { L with ts := none :: L.ts } := by
  refine ⟨Kp.refl.set DbAt.mutS, fun b hb => hb.ts fun u m e => ?_, rfl⟩
  rcases List.mem_cons.mp m with m | m
  · cases m
  · exact .inl (e ▸ DbAt.mutQ m)
theorem Fr.popS {t : Option TxL} {ts : List (Option TxL)} {o : HO} (et : L.ts = t :: ts) : Fr H (upd H L.s o) L { L with ts := ts } := by
  refine ⟨Kp.refl.set DbAt.mutS, fun b hb => hb.ts fun u m e => ?_, rfl⟩
  exact .inl (e ▸ DbAt.mutQ (by rw [et]; exact List.mem_cons_of_mem _ m))
theorem Fr.same (k : Same H H') : Fr H H' L L := .of_kp (.of_same k)
/-- the top: None or a transaction -/
theorem DbAt.top (h : DbAt aD aT aW H L D) : (∃ ts st, L.ts = none :: ts ∧ D.stack = none :: st) ∨
    ∃ t ts x st y rs, L.ts = some t :: ts ∧ D.stack = some x :: st ∧ x.rs = y :: rs ∧ H t.t = some (.ins aT t.dt (txF x.num t.q)) ∧ H t.q = some (.lst (rv oV (y :: rs))) := by
  have a := h.txs
  have n := h.ne
  generalize L.ts = ts0 at a
  generalize D.stack = st0 at a n
  cases a with
  | nil => exact absurd rfl n
  | @cons x y l m r a =>
    cases x with
    | none => cases y with
      | none => exact .inl ⟨_, _, rfl, rfl⟩
      | some y => exact r.elim
    | some t => cases y with
      | none => exact r.elim
      | some x =>
        obtain ⟨r1, r2, r3⟩ := r
        obtain ⟨num, rs⟩ := x
        cases rs with
        | nil => exact absurd rfl r3
        | cons y rs => exact .inr ⟨t, _, ⟨num, y :: rs⟩, _, y, rs, rfl, rfl, rfl, r1, r2⟩
end
/-! ### the rows of a database -/
theorem All2.get {α β : Type} {R : α → β → Prop} {l : List α} {m : List β} (a : All2 R l m) : ∀ {i : Nat} {x : α}, l[i]? = some x → ∃ y, m[i]? = some y ∧ R x y := by
  induction a with
  | nil => intro i x h; simp at h
  | cons r _ ih =>
    intro i x h
    cases i with
    | zero =>
      cases h
      exact ⟨_, rfl, r⟩
    | succ i => exact ih h
theorem All2.setR {α β : Type} {R S : α → β → Prop} {l : List α} {m : List β} (a : All2 R l m) : ∀ {i : Nat} {x : α} {y : β}, l[i]? = some x → S x y → (∀ j x' y', j ≠ i → l[j]? = some x' → R x' y' → S x' y') → All2 S l (m.set i y) := by
  induction a with
  | nil => intro i x y h; simp at h
  | @cons u v l m r t ih =>
    intro i x y h s k
    cases i with
    | zero =>
      cases h
      refine .cons s ?_
      have k' : ∀ j x' y', l[j]? = some x' → R x' y' → S x' y' := fun j x' y' e q => k (j + 1) x' y' (by omega) e q
      clear ih k
      induction t with
      | nil => exact .nil
      | cons r2 _ ih2 => exact .cons (k' 0 _ _ rfl r2) (ih2 fun j x' y' e q => k' (j + 1) x' y' e q)
    | succ i => exact .cons (k 0 _ _ (by omega) rfl r) (ih h s fun j x' y' n e q => k (j + 1) x' y' (by omega) e q)
theorem All2.snoc {α β : Type} {R : α → β → Prop} {l : List α} {m : List β} {x : α} {y : β} (a : All2 R l m) (r : R x y) : All2 R (l ++ [x]) (m ++ [y]) := by
  induction a with
  | nil => exact .cons r .nil
  | cons r' _ ih => exact .cons r' ih
section
variable {aD aT aW : Addr} {H H' : Hp} {L : Lay} {D : Db}
theorem row_ne_db {w : Addr × Addr} {x : Row} (h : DbAt aD aT aW H L D) (hx : H w.1 = some (.ins aW w.2 (rwF x))) : L.db ≠ w.1 := fun z => by
  rw [← z, h.db] at hx
  injection hx with hx
  injection hx with _ _ hx
  exact absurd (congrArg Prod.fst (List.cons.inj hx).1) (show ¬ (("rows" : Str) = "record") by decide +kernel)
theorem row_ne_tx {w : Addr × Addr} {x : Row} (h : DbAt aD aT aW H L D) (hx : H w.1 = some (.ins aW w.2 (rwF x))) {t : TxL} (m : some t ∈ L.ts) : t.t ≠ w.1 := fun z => by
  obtain ⟨y, h1, _⟩ := h.tx m
  rw [← z, h1] at hx
  injection hx with hx
  injection hx with _ _ hx
  exact absurd (congrArg List.length hx) (by simp)
theorem DbAt.mutW {w : Addr × Addr} (h : w ∈ L.ws) : Mut L w.1 := .inr (.inr (.inr (.inr (.inr ⟨w, h, rfl⟩))))
theorem DbAt.mutR : Mut L L.r := .inr (.inl rfl)
theorem DbAt.setRow {i : Nat} {w : Addr × Addr} {x' : Row} (h : DbAt aD aT aW H L D) (hw : L.ws[i]? = some w) : DbAt aD aT aW (upd H w.1 (.ins aW w.2 (rwF x'))) L { D with rows := D.rows.set i x' } := by
  obtain ⟨x, _, hx⟩ := h.rows.get hw
  have hx : H w.1 = some (.ins aW w.2 (rwF x)) := hx
  refine ⟨upd_oth (row_ne_db h hx) h.db, upd_oth (Ne.symm (ins_ne hx h.r)) h.r, upd_oth (Ne.symm (ins_ne hx h.s)) h.s, upd_oth (Ne.symm (ins_ne hx h.e)) h.e, ?_, ?_, h.rs, h.re, h.se, h.qn, h.qd, h.wd, h.ne⟩
  · refine h.rows.setR hw upd_same fun j v y n hv hy => upd_oth (fun z => ?_) hy
    have hi : i < L.ws.length := (List.getElem?_eq_some_iff.mp hw).1
    have hj : j < L.ws.length := (List.getElem?_eq_some_iff.mp hv).1
    have wi : L.ws[i] = w := (List.getElem?_eq_some_iff.mp hw).2
    have wj : L.ws[j] = v := (List.getElem?_eq_some_iff.mp hv).2
    rcases Nat.lt_or_gt_of_ne n with lt | gt
    · exact (List.pairwise_iff_getElem.mp h.wd j i hj hi lt) (by rw [wi, wj]; exact z)
    · exact (List.pairwise_iff_getElem.mp h.wd i j hi hj gt) (by rw [wi, wj]; exact z.symm)
  · refine h.txs.imp fun t y ht hy => hy.keep fun u eu => ?_
    subst eu
    obtain ⟨z, _, h2, _⟩ := h.tx ht
    exact ⟨fun o e => upd_oth (row_ne_tx h hx ht) e, fun o e => upd_oth (Ne.symm (ins_ne hx h2)) e⟩
theorem DbAt.addRow {w : Addr × Addr} {x : Row} (h : DbAt aD aT aW H L D) (hx : H w.1 = some (.ins aW w.2 (rwF x))) (hn : ¬ Mut L w.1) :
    DbAt aD aT aW (upd H L.r (.lst ((L.ws ++ [w]).map fun w => .ref w.1))) { L with ws := L.ws ++ [w] } { D with rows := D.rows ++ [x] } := by
  refine ⟨upd_oth (ins_ne h.db h.r) h.db, upd_same, upd_oth (Ne.symm h.rs) h.s, upd_oth (Ne.symm h.re) h.e, (h.rowsQ h.r).snoc (upd_oth (ins_ne hx h.r) hx), h.txsQ h.r fun t m => (h.qn t m).1, h.rs, h.re, h.se, h.qn, h.qd, ?_, h.ne⟩
  refine List.pairwise_append.mpr ⟨h.wd, List.pairwise_singleton _ _, fun v hv u hu => ?_⟩
  rcases List.mem_singleton.mp hu with rfl
  exact fun z => hn (z ▸ DbAt.mutW hv)
theorem Fr.addRow {w : Addr × Addr} {o : HO} (k : Kp (Mut L) H H') (hq : H w.1 = none) : Fr H (upd H' L.r o) L { L with ws := L.ws ++ [w] } := by
  refine ⟨k.set DbAt.mutR, fun b hb => ?_, rfl⟩
  rcases hb with hb | hb | hb | hb | hb | ⟨v, hv, hb⟩
  · exact .inl (.inl hb)
  · exact .inl (.inr (.inl hb))
  · exact .inl (.inr (.inr (.inl hb)))
  · exact .inl (.inr (.inr (.inr (.inl hb))))
  · exact .inl (.inr (.inr (.inr (.inr (.inl hb)))))
  · rcases List.mem_append.mp hv with hv | hv
    · exact .inl (hb ▸ DbAt.mutW hv)
    · rcases List.mem_singleton.mp hv with rfl
      exact .inr (hb ▸ hq)
end
/-! ### held records -/
def heldS (ns : List Int) (l : List Str) (x : Row) : List Str := if x.fate = "open" ∧ x.holder ∈ ns then addT x.rcd l else l
def heldL (rows : List Row) (ns : List Int) : List Str := rows.foldl (heldS ns) []
theorem held_fold (ns : List Int) : ∀ (rows : List Row) (l : List Str), (∀ k, k ∈ rows.foldl (heldS ns) l ↔ k ∈ l ∨ ∃ x ∈ rows, x.fate = "open" ∧ x.holder ∈ ns ∧ x.rcd = k) ∧ (l.Nodup → (rows.foldl (heldS ns) l).Nodup) ∧ (rows.foldl (heldS ns) l).length ≤ l.length + rows.length
  | [], l => ⟨fun k => by simp, id, by simp⟩
  | x :: r, l => by
    obtain ⟨h1, h2, h3⟩ := held_fold ns r (heldS ns l x)
    refine ⟨fun k => ?_, fun h => h2 ?_, ?_⟩
    · rw [List.foldl_cons, h1 k]
      have e : k ∈ heldS ns l x ↔ k ∈ l ∨ (x.fate = "open" ∧ x.holder ∈ ns ∧ x.rcd = k) := by
        unfold heldS
        split
        · rename_i c
          rw [addT_mem]
          exact ⟨fun z => z.elim (fun e => .inr ⟨c.1, c.2, e.symm⟩) .inl, fun z => z.elim .inr fun e => .inl e.2.2.symm⟩
        · rename_i c
          exact ⟨.inl, fun z => z.elim id fun e => absurd ⟨e.1, e.2.1⟩ c⟩
      rw [e]
      constructor
      · rintro ((h | h) | ⟨y, hy, h⟩)
        · exact .inl h
        · exact .inr ⟨x, List.mem_cons_self, h⟩
        · exact .inr ⟨y, List.mem_cons_of_mem _ hy, h⟩
      · rintro (h | ⟨y, hy, h⟩)
        · exact .inl (.inl h)
        · rcases List.mem_cons.mp hy with rfl | hy
          · exact .inl (.inr h)
          · exact .inr ⟨y, hy, h⟩
    · unfold heldS
      split
      · exact addT_nd h
      · exact h
    · rw [List.foldl_cons, List.length_cons]
      have e : (heldS ns l x).length ≤ l.length + 1 := by
        unfold heldS
        split
        · exact addT_len
        · omega
      omega
theorem held_mem {rows : List Row} {ns : List Int} {k : Str} : k ∈ heldL rows ns ↔ ∃ x ∈ rows, x.fate = "open" ∧ x.holder ∈ ns ∧ x.rcd = k := by
  have := (held_fold ns rows []).1 k
  simpa [heldL] using this
theorem held_nd {rows : List Row} {ns : List Int} : (heldL rows ns).Nodup := (held_fold ns rows []).2.1 List.nodup_nil
theorem held_len {rows : List Row} {ns : List Int} : (heldL rows ns).length ≤ rows.length := by
  have := (held_fold ns rows []).2.2
  simpa [heldL] using this
theorem held_take {rows : List Row} {ns : List Int} {i : Nat} {x : Row} (h : rows[i]? = some x) : heldL (rows.take (i + 1)) ns = heldS ns (heldL (rows.take i) ns) x := by
  unfold heldL
  rw [List.take_add_one, h, List.foldl_append]; rfl
/-- the numbers of some transactions, the last first -/
def numsO (st : List (Option Tx)) : List Int := (st.filterMap fun t => t.map (·.num)).reverse
/-! ### for in a generator's body -/
section
open PySem.Spec PyProof.Rows GenW
section
variable {M : Model} {A : Around} {R : GenEnd} {Y : Protocol} {n : Nat} {s₀ : Shared} {c : Code} {fs : List Frame} {s : Shared} {env : Env} {K : Flow → Sem PySem.Fin} {H : Value → Sem PySem.Fin} {gd : Bool → Bool} {lv : List Value → List Value}
theorem seg_For {target iter : Expr} {body orelse : List Stmt} {pos : Pos}
    (h : wpAny M (A.over c fs) (eval iter env) (fun x s₁ => wpAny M (A.over c fs) (pyIter x) (fun it s₂ => ∀ p, Seg M A R Y n s₀ (.forLoop target it body orelse env) (M.den (.forLoop target it body orelse env))
      (.ret (fun r => ((match r with | .ok f => (.pure f : Sem Flow) | .error e => .raise e).onRaise (cameBack env)).wrap K H gd lv) none (gd false) (lv []) c p [] :: fs) s₂)
        (fun x s' => Seg M A R Y n s₀ c (H x) fs s') s₁) (fun x s' => Seg M A R Y n s₀ c (H x) fs s') s)
    (hs : ∀ x, foldedSetIterable iter env x = pure x) :
    Seg M A R Y n s₀ c ((exec (.For target iter body orelse pos) env).wrap K H gd lv) fs s := by
  rw [exec_For]
  refine seg_bind_wrap (wpAny_standAt ?_)
  refine seg_bind_wrap (wpAny_mono h (fun x s₁ h₁ => ?_) fun _ _ h' => h')
  refine seg_bind_wrap (wpAny_of_eq (hs x) ?_)
  refine seg_bind_wrap (wpAny_standAt ?_)
  refine seg_bind_wrap (wpAny_holding (wpAny_mono h₁ (fun it s₂ h₂ => ?_) fun _ _ h' => h'))
  exact seg_call h₂
end
section
variable {prog : Program} {w : World} {A : Around} {R : GenEnd} {Y : Protocol} {n : Nat} {s₀ : Shared} {fs : List Frame} {s : Shared} {env : Env}
theorem seg_forLoop {target : Expr} {it : Value} {body : List Stmt}
    (h : wpAny (model prog w) (A.over (.forLoop target it body [] env) fs) (pyNext it) (fun r s₁ => match r with
        | none => Seg (model prog w) A R Y n s₀ (.block [] env) (leafOf (.ok .next)) fs s₁
        | some v => wpAny (model prog w) (A.over (.forLoop target it body [] env) fs) (letOwnedTupleGo target it v) (fun _ s₂ => wpAny (model prog w) (A.over (.forLoop target it body [] env) fs) (assign target env v) (fun _ s₃ =>
          Seg (model prog w) A R Y n s₀ (.forLoop target it body [] env) ((execs body env).wrap (fun f => match f with
            | .next | .cont => .pure (.again (.forLoop target it body [] env))
            | .brk => .pure (.done .next)
            | .ret v => .pure (.done (.ret v))) (fun e => (do noteFrame e env; theTreesLotGoes e : Sem Unit).wrap (fun _ => .raise e) .raise id id) id id) fs s₃)
          (fun x s' => Seg (model prog w) A R Y n s₀ (.forLoop target it body [] env) ((do noteFrame x env; theTreesLotGoes x : Sem Unit).wrap (fun _ => .raise x) .raise id id) fs s') s₂)
          (fun x s' => Seg (model prog w) A R Y n s₀ (.forLoop target it body [] env) ((do noteFrame x env; theTreesLotGoes x : Sem Unit).wrap (fun _ => .raise x) .raise id id) fs s') s₁)
      (fun x s' => Seg (model prog w) A R Y n s₀ (.forLoop target it body [] env) ((do noteFrame x env; theTreesLotGoes x : Sem Unit).wrap (fun _ => .raise x) .raise id id) fs s') s) :
    Seg (model prog w) A R Y n s₀ (.forLoop target it body [] env) ((model prog w).den (.forLoop target it body [] env)) fs s := by
  show Seg _ A R Y n s₀ _ ((forTurn target it body [] env).onRaise (fun x => do noteFrame x env; theTreesLotGoes x)) fs s
  have eE : ∀ x : Value, ((do noteFrame x env; theTreesLotGoes x : Sem Unit).bind fun _ => (.raise x : Sem PySem.Fin)) = (do noteFrame x env; theTreesLotGoes x : Sem Unit).wrap (fun _ => .raise x) .raise id id := fun x => Sem.bind_eq_wrap _ _
  rw [Sem.onRaise_eq_wrap]
  simp only [eE]
  unfold forTurn
  refine seg_bind_wrap (wpAny_standAt ?_)
  refine seg_bind_wrap (wpAny_onRaise (wpAny_mono h (fun r s₁ h₁ => ?_) fun _ _ h' => wpAny_standAt h'))
  cases r with
  | none => exact seg_again rfl h₁
  | some v =>
    refine seg_bind_wrap (wpAny_mono h₁ (fun _ s₂ h₂ => ?_) fun _ _ h' => h')
    refine seg_bind_wrap (wpAny_mono h₂ (fun _ s₃ h₃ => ?_) fun _ _ h' => h')
    rw [Sem.bind_eq_wrap', Sem.wrap_wrap]
    rw [Sem.wrap_congr (execs body env) _ _ (K' := fun f => match f with
            | .next | .cont => .pure (.again (.forLoop target it body [] env))
            | .brk => .pure (.done .next)
            | .ret v => .pure (.done (.ret v))) (H' := (fun e => (do noteFrame e env; theTreesLotGoes e : Sem Unit).wrap (fun _ => .raise e) .raise id id))
        (fun f => by cases f <;> rfl) (fun e => by rfl)]
    exact h₃
end
section
variable {X : Cx} {tg : Expr}
def tGFor (wi : TI) (g : TG) (tb : TGn) : TGn := fun D ys σ H => wi σ H fun J H1 => ∃ W : Nat → Nat → List V → L2.St → Hp → Prop, (∃ m, W 0 m ys σ H1) ∧ ∀ i m ys σ H, W i m ys σ H →
  (J.stop i H ∧ D.nx ys σ H) ∨ (J.go i H ∧ ∃ N : List V → L2.St → Hp → Prop, (∀ ys' σ' H', N ys' σ' H' → ∃ m', m' < m ∧ W (i + 1) m' ys' σ' H') ∧ ∀ x H', J.yld i H x H' → g x σ H' fun σ2 H2 => tb { D with nx := N, ct := N, bk := D.nx } ys σ2 H2)
theorem gs_for {iter : Expr} {body : List Stmt} {wi : TI} {g : TG} {tb : TGn} {pos : Pos} (hp : PassesOwn (model X.prog X.w) X.A X.env X.xe) (hc : X.calm = true) (hi : PI X tg iter wi) (hg : PG X tg g) (hb : GSs X body tb)
    (hs : ∀ x, foldedSetIterable iter X.env x = pure x := by intro _; rfl) : GS X (.For tg iter body [] pos) (tGFor wi g tb) := by
  refine ⟨fun A S ip R n ys s₀ c fs K J gd lv s σ H D g0 hn k hI ht => ?_⟩
  obtain ⟨acc, cc, r, I⟩ := hI
  refine seg_For ?_ hs
  rw [g0.over]
  refine wpAny_mono (hi.run _ s σ H _ I ht) (fun v s1 h1 => wpAny_mono h1 (fun itv s2 h2 p => ?_) fun x s' hx => k.exc n s₀ x s' hx) fun x s' hx => k.exc n s₀ x s' hx
  obtain ⟨it, fp, tn, J0, H2, e, I2, T, st2, f2, W, ⟨m0, w0⟩, turn⟩ := h2
  subst e
  have stat : ∀ {H' : Hp} {acc' : Array Value} {c' : Nat}, (∀ b ∈ fp, H' b = none) → ∀ b ∈ fp, FpOk X ((S, lstObj acc' c') :: ip) H' b := fun hn b hb => by
    obtain ⟨q0, q1, q2, q3, q4, q5⟩ := f2 b hb
    refine ⟨hn b hb, q1, q2, q3, q4, fun p hp => ?_⟩
    rcases List.mem_append.mp hp with hp | hp
    · exact q5 p (List.mem_append_left _ hp)
    · rcases List.mem_cons.mp hp with rfl | hp
      · exact q5 (S, lstObj acc cc) (List.mem_append_right _ List.mem_cons_self)
      · exact q5 p (List.mem_append_right _ (List.mem_cons_of_mem _ hp))
  have nS : ∀ b ∈ fp, b ≠ S := fun b hb e => (f2 b hb).2.2.2.2.2 (S, lstObj acc cc) (List.mem_append_right _ List.mem_cons_self) e.symm
  have gl := fun (kk : Result → Sem PySem.Fin) => gc_loop (k := kk) (c' := .forLoop tg (.ref it) body [] X.env) (l := lv []) (kp := []) (p := p) g0 rfl rfl
  have loop : ∀ (m n : Nat) (ys : List V) (s₀ s : Shared) (i : Nat) (σ : L2.St) (H : Hp), n + ys.length = sizeLine → W i m ys σ H → GI X S ip ys σ H s → tn i s.heap → (∀ b ∈ fp, H b = none) →
      Seg (model X.prog X.w) A R (GY X S) n s₀ (.forLoop tg (.ref it) body [] X.env) ((model X.prog X.w).den (.forLoop tg (.ref it) body [] X.env))
        (.ret (fun r => ((match r with | .ok f => (.pure f : Sem Flow) | .error e => .raise e).onRaise (cameBack X.env)).wrap K J gd lv) none (gd false) (lv []) c p [] :: fs) s := by
    intro m
    induction m using Nat.strongRecOn with
    | ind m ih =>
      intro n ys s₀ s3 i σ3 H3 hn w3 hI st3 fr3
      have ee : ∀ (n : Nat) (s₀ : Shared) (x : Value) (s' : Shared), X.xe x s' → Seg (model X.prog X.w) A R (GY X S) n s₀ (.forLoop tg (.ref it) body [] X.env)
          ((do noteFrame x X.env; theTreesLotGoes x : Sem Unit).wrap (fun _ => .raise x) .raise id id)
          (.ret (fun r => ((match r with | .ok f => (.pure f : Sem Flow) | .error e => .raise e).onRaise (cameBack X.env)).wrap K J gd lv) none (gd false) (lv []) c p [] :: fs) s' := fun n s₀ x s' hx => by
        refine seg_wrap ?_
        rw [(gl _).over]
        refine wpAny_bind (wpAny_mono (hp x s' hx) (fun _ s'' hcb => wpAny_theTreesLotGoes ?_) fun y s'' hcb => ?_)
        · exact seg_leaf (.error x) (seg_cameBack g0 k hcb)
        · exact seg_leaf (.error y) (seg_cameBack g0 k hcb)
      refine seg_forLoop ?_
      rw [(gl _).over]
      obtain ⟨acc3, cc3, r3, I3⟩ := hI
      rcases turn i m ys σ3 H3 w3 with ⟨stop, qn⟩ | ⟨go, N, hN, step⟩
      · refine wpAny_mono (T.done X rfl rfl rfl hc i _ s3 σ3 H3 X.xe I3 (stat fr3) st3 stop) (fun r s4 h4 => ?_) fun x s' hx => ee n s₀ x s' hx
        obtain ⟨hr, I4⟩ := h4
        subst hr
        exact seg_leaf (.ok .next) (k.ok n ys s₀ s4 .next hn ⟨σ3, H3, ⟨acc3, cc3, r3, I4⟩, qn⟩)
      · refine wpAny_mono (T.item X rfl rfl rfl hc i _ s3 σ3 H3 X.xe I3 (stat fr3) st3 go) (fun r s4 h4 => ?_) fun x s' hx => ee n s₀ x s' hx
        obtain ⟨u, hr, h4⟩ := h4
        subst hr
        refine wpAny_mono h4 (fun _ s5 h5 => ?_) fun x s' hx => ee n s₀ x s' hx
        obtain ⟨x, H5, I5, r5, y5, st5, fr5⟩ := h5
        have I5' := I5.pinned (stat fr5) (T.obj _ _ st5)
        refine wpAny_mono (hg.run _ s5 σ3 H5 x u _ I5' r5 (step x H5 y5)) (fun _ s6 h6 => ?_) fun x s' hx => ee n s₀ x s' hx
        obtain ⟨σ6, H6, I6, q6⟩ := h6
        have hip : ∀ q ∈ ip ++ pinsAt fp s5.heap, q.1 ≠ S := fun q hq => by
          rcases List.mem_append.mp hq with hq | hq
          · exact g0.ip q hq
          · exact nS _ (of_pinsAt hq).1
        have g6 := fun (kk : Result → Sem PySem.Fin) => ({ gl kk with ip := hip } : GC X S (ip ++ pinsAt fp s5.heap) A (.forLoop tg (.ref it) body [] X.env) _ id)
        have again : ∀ {n' : Nat} {ys' : List V} {s₀' s7 : Shared} {σ7 : L2.St} {H7 : Hp}, n' + ys'.length = sizeLine → GI X S (ip ++ pinsAt fp s5.heap) ys' σ7 H7 s7 → N ys' σ7 H7 →
            Seg (model X.prog X.w) A R (GY X S) n' s₀' (.forLoop tg (.ref it) body [] X.env) ((model X.prog X.w).den (.forLoop tg (.ref it) body [] X.env))
              (.ret (fun r => ((match r with | .ok f => (.pure f : Sem Flow) | .error e => .raise e).onRaise (cameBack X.env)).wrap K J gd lv) none (gd false) (lv []) c p [] :: fs) s7 := fun {n' ys' s₀' s7 σ7 H7} hn' G7 n7 => by
          obtain ⟨m', hm, w7⟩ := hN ys' σ7 H7 n7
          obtain ⟨acc7, cc7, r7, I7⟩ := G7
          have pin7 : ∀ b o, (b, o) ∈ pinsAt fp s5.heap → s7.heap.get? b = some o ∧ H7 b = none := fun b o hb => by
            have := I7.pin (b, o) (List.mem_append_right _ (List.mem_cons_of_mem _ (List.mem_append_right _ hb)))
            exact ⟨this.1, this.2.1⟩
          refine ih m' hm n' ys' s₀' s7 (i + 1) σ7 H7 hn' w7 ⟨acc7, cc7, r7, I7.pins_of fun q hq => ?_⟩ (T.keep _ _ _ st5 fun b hb o e => (pin7 b o (mem_pinsAt hb e)).1) fun b hb => ?_
          · rcases List.mem_cons.mp hq with rfl | hq
            · exact I7.pin _ (List.mem_append_right _ List.mem_cons_self)
            · exact I7.pin q (List.mem_append_right _ (List.mem_cons_of_mem _ (List.mem_append_left _ hq)))
          · obtain ⟨o, e, d⟩ := T.obj _ _ st5 b hb
            exact (pin7 b o (mem_pinsAt hb e)).2
        have out : ∀ {ys' : List V} {s7 : Shared} {σ7 : L2.St} {H7 : Hp}, GI X S (ip ++ pinsAt fp s5.heap) ys' σ7 H7 s7 → GI X S ip ys' σ7 H7 s7 := fun {ys' s7 σ7 H7} G7 => by
          obtain ⟨acc7, cc7, r7, I7⟩ := G7
          refine ⟨acc7, cc7, r7, I7.pins_of fun q hq => ?_⟩
          rcases List.mem_cons.mp hq with rfl | hq
          · exact I7.pin _ (List.mem_append_right _ List.mem_cons_self)
          · exact I7.pin q (List.mem_append_right _ (List.mem_cons_of_mem _ (List.mem_append_left _ hq)))
        refine hb.run A S (ip ++ pinsAt fp s5.heap) R n ys s₀ _ _ _ _ id id s6 σ6 H6 { D with nx := N, ct := N, bk := D.nx } (g6 _) hn ⟨fun n' ys' s₀' s7 f hn' hs => ?_, fun n' s₀' x s7 hx => ee n' s₀' x s7 hx⟩ ⟨acc3, cc3, r3, I6⟩ q6
        cases f with
        | next =>
          obtain ⟨σ7, H7, G7, n7⟩ := hs
          exact seg_again rfl (again hn' G7 n7)
        | cont =>
          obtain ⟨σ7, H7, G7, n7⟩ := hs
          exact seg_again rfl (again hn' G7 n7)
        | brk =>
          obtain ⟨σ7, H7, G7, n7⟩ := hs
          exact seg_leaf (.ok .next) (k.ok n' ys' s₀' s7 .next hn' ⟨σ7, H7, out G7, n7⟩)
        | ret v =>
          obtain ⟨v7, σ7, H7, G7, r7, n7⟩ := hs
          exact seg_leaf (.ok (.ret v)) (k.ok n' ys' s₀' s7 (.ret v) hn' ⟨v7, σ7, H7, out G7, r7, n7⟩)
  exact loop m0 n ys s₀ s2 0 σ H2 hn w0 ⟨acc, cc, r, I2⟩ st2 fun b hb => (f2 b hb).1
end
end
section
open PySem.Spec PyProof.Rows GenW
theorem fun_gen {P : Program} {w : World} {K : PySem.W.Frag} {mg : Str → Option Value} {base : Heap} {x qual : Str} {st : Stmt} {f : Addr} {fd : FuncData} {N ps : List Str} {k : Nat} {sp : SpG} (F : Fun K x qual st f fd) (S : GScope N ps (defScope st)) (len : ∀ vs H Q E, sp vs H Q E → vs.length = ps.length)
    (hbody : ∀ (cdv : Value) (A : Around) (outer : List Env) (s : Shared) (H : Hp) (vs : List V) (Q : List V → Hp → Prop) (E : XK) (pn : List (Addr × Obj)), Room k (A.deeper (envOfC qual (defScope st) s.heap.objs.size f cdv)) → sp vs H Q E →
      ∃ t, GSs (gcxOf P w K mg base N qual (defScope st) f cdv A outer s H E pn) (defBody st) t ∧ t { nx := fun ys _ H' => Q ys H', rt := fun ys v H' => v = .non ∧ Q ys H' } [] (start N vs) H) : GFn P w K mg base (k + 1) f fd ps sp := by
  obtain ⟨oc, od, kV, doc, pm, an, cdv, ct, osl, rfl, lk, hcd⟩ := F.ex
  exact gfn_of lk hcd S len fun A outer s H vs Q E pn hr hsp => hbody cdv A outer s H vs Q E pn hr hsp
/-- over a list that the body leaves as it is -/
theorem gfor_list {K : PySem.W.Frag} {a : Addr} {xs : List V} {g : TG} {tb : TGn} {D : GEnds} {ys : List V} {σ : L2.St} {H : Hp} (Pv : Nat → List V → L2.St → Hp → Prop) (h0 : Pv 0 ys σ H) (hl : ∀ i ys σ H, i ≤ xs.length → Pv i ys σ H → SqL K H a xs)
    (hs : ∀ i x ys σ H, xs[i]? = some x → Pv i ys σ H → g x σ H fun σ2 H2 => tb { D with nx := Pv (i + 1), ct := Pv (i + 1), bk := D.nx } ys σ2 H2) (hd : ∀ ys σ H, Pv xs.length ys σ H → D.nx ys σ H) :
    ∃ W : Nat → Nat → List V → L2.St → Hp → Prop, (∃ m, W 0 m ys σ H) ∧ ∀ i m ys σ H, W i m ys σ H →
      ((Itl K a).stop i H ∧ D.nx ys σ H) ∨ ((Itl K a).go i H ∧ ∃ N : List V → L2.St → Hp → Prop, (∀ ys' σ' H', N ys' σ' H' → ∃ m', m' < m ∧ W (i + 1) m' ys' σ' H') ∧ ∀ x H', (Itl K a).yld i H x H' → g x σ H' fun σ2 H2 => tb { D with nx := N, ct := N, bk := D.nx } ys σ2 H2) := by
  refine ⟨fun i m ys σ H => m = xs.length - i ∧ i ≤ xs.length ∧ Pv i ys σ H, ⟨xs.length, by simp, Nat.zero_le _, h0⟩, ?_⟩
  rintro i m ys σ H ⟨rfl, hi, p⟩
  have q := hl i ys σ H hi p
  by_cases hlt : i < xs.length
  · refine .inr ⟨⟨xs, xs[i], q, by simp [hlt]⟩, Pv (i + 1), fun ys' σ' H' p' => ⟨xs.length - (i + 1), by omega, rfl, hlt, p'⟩, fun x H' y => ?_⟩
    obtain ⟨e, y⟩ := y
    subst e
    exact hs i x ys σ _ (y xs q) p
  · have e : i = xs.length := by omega
    subst e
    exact .inl ⟨⟨xs, q, Nat.le_refl _⟩, hd ys σ H p⟩
theorem noStop0 {K : PySem.W.Frag} : NoStop K E0 := fun _ _ _ h => nomatch h
end
theorem passL0 {X : Cx} {σ : L2.St} : PassesAt (L2.CX X.prog X.w) X σ E0 := fun pins H s e s' I c => passL pins σ H s e s' I c
abbrev s_Mode_is_mode : Stmt := inClass (top 14) 9
theorem sc_Mode_is_mode : FnScope ["thing"] ["thing"] (defScope s_Mode_is_mode) := ⟨rfl, rfl, rfl, by decide +kernel, rfl, by decide +kernel, by decide +kernel⟩
abbrev s_is_word : Stmt := top 13
theorem sc_is_word : FnScope ["thing", "letter"] ["thing"] (defScope s_is_word) := ⟨rfl, rfl, rfl, by decide +kernel, rfl, by decide +kernel, by decide +kernel⟩
abbrev s_MissingU_initU : Stmt := inClass (top 8) 0
abbrev s_PresentU_initU : Stmt := inClass (top 9) 0
abbrev s_DoomedU_initU : Stmt := inClass (top 7) 0
abbrev s_RefusedU_initU : Stmt := inClass (top 10) 0
abbrev s_NoBlockU_initU : Stmt := inClass (top 5) 0
abbrev s_WaitsU_initU : Stmt := inClass (top 11) 0
abbrev s_NoRecordU_initU : Stmt := inClass (top 6) 0
abbrev s_BadWordU_initU : Stmt := inClass (top 3) 0
abbrev s_BadModeU_initU : Stmt := inClass (top 4) 0
abbrev s_WriteU_initU : Stmt := inClass (top 16) 0
theorem sc_WriteU_initU : FnScope ["self", "record", "value", "fate", "holder", "level"] ["self", "record", "value", "fate", "holder", "level"] (defScope s_WriteU_initU) := ⟨rfl, rfl, rfl, by decide +kernel, rfl, by decide +kernel, by decide +kernel⟩
abbrev s_TransactionU_initU : Stmt := inClass (top 17) 0
theorem sc_TransactionU_initU : FnScope ["self", "number"] ["self", "number"] (defScope s_TransactionU_initU) := ⟨rfl, rfl, rfl, by decide +kernel, rfl, by decide +kernel, by decide +kernel⟩
abbrev s_DatabaseU_initU : Stmt := inClass (top 18) 0
theorem sc_DatabaseU_initU : FnScope ["self"] ["self"] (defScope s_DatabaseU_initU) := ⟨rfl, rfl, rfl, by decide +kernel, rfl, by decide +kernel, by decide +kernel⟩
abbrev s_Database_begin : Stmt := inClass (top 18) 9
theorem sc_Database_begin : FnScope ["self"] ["self"] (defScope s_Database_begin) := ⟨rfl, rfl, rfl, by decide +kernel, rfl, by decide +kernel, by decide +kernel⟩
abbrev s_Database_enter_alone : Stmt := inClass (top 18) 7
theorem sc_Database_enter_alone : FnScope ["self", "mode"] ["self", "mode"] (defScope s_Database_enter_alone) := ⟨rfl, rfl, rfl, by decide +kernel, rfl, by decide +kernel, by decide +kernel⟩
abbrev s_Database_enter_inside : Stmt := inClass (top 18) 8
theorem sc_Database_enter_inside : FnScope ["self", "mode", "present"] ["self", "mode", "present"] (defScope s_Database_enter_inside) := ⟨rfl, rfl, rfl, by decide +kernel, rfl, by decide +kernel, by decide +kernel⟩
abbrev s_Database_enter : Stmt := inClass (top 18) 6
theorem sc_Database_enter : FnScope ["self", "mode"] ["self", "mode"] (defScope s_Database_enter) := ⟨rfl, rfl, rfl, by decide +kernel, rfl, by decide +kernel, by decide +kernel⟩
abbrev s_Database_doom : Stmt := inClass (top 18) 20
theorem sc_Database_doom : FnScope ["self", "first", "present"] ["self", "first"] (defScope s_Database_doom) := ⟨rfl, rfl, rfl, by decide +kernel, rfl, by decide +kernel, by decide +kernel⟩
abbrev s_Database_end_level : Stmt := inClass (top 18) 11
theorem sc_Database_end_level : FnScope ["self", "error", "present", "reason", "top", "row"] ["self", "error"] (defScope s_Database_end_level) := ⟨rfl, rfl, rfl, by decide +kernel, rfl, by decide +kernel, by decide +kernel⟩
abbrev s_Database_end_transaction : Stmt := inClass (top 18) 12
theorem sc_Database_end_transaction : FnScope ["self", "error", "commits", "present", "reason", "fate", "row"] ["self", "error", "commits"] (defScope s_Database_end_transaction) := ⟨rfl, rfl, rfl, by decide +kernel, rfl, by decide +kernel, by decide +kernel⟩
abbrev s_Database_leave : Stmt := inClass (top 18) 10
theorem sc_Database_leave : FnScope ["self", "error", "commits", "sort"] ["self", "error", "commits"] (defScope s_Database_leave) := ⟨rfl, rfl, rfl, by decide +kernel, rfl, by decide +kernel, by decide +kernel⟩
abbrev s_Database_held_by : Stmt := inClass (top 18) 21
theorem sc_Database_held_by : FnScope ["self", "numbers", "row"] ["self", "numbers"] (defScope s_Database_held_by) := ⟨rfl, rfl, rfl, by decide +kernel, rfl, by decide +kernel, by decide +kernel⟩
abbrev s_Database_outer_records : Stmt := inClass (top 18) 23
theorem sc_Database_outer_records : FnScope ["self", "one"] ["self"] (defScope s_Database_outer_records) := ⟨rfl, rfl, rfl, by decide +kernel, rfl, by decide +kernel, by decide +kernel⟩
abbrev s_Database_would_wait : Stmt := inClass (top 18) 13
theorem sc_Database_would_wait : FnScope ["self", "record"] ["self", "record"] (defScope s_Database_would_wait) := ⟨rfl, rfl, rfl, by decide +kernel, rfl, by decide +kernel, by decide +kernel⟩
abbrev s_Database_write : Stmt := inClass (top 18) 14
theorem sc_Database_write : FnScope ["self", "record", "value", "present"] ["self", "record", "value"] (defScope s_Database_write) := ⟨rfl, rfl, rfl, by decide +kernel, rfl, by decide +kernel, by decide +kernel⟩
abbrev s_DatabaseU_setitemU : Stmt := inClass (top 18) 15
theorem sc_DatabaseU_setitemU : FnScope ["self", "record", "value"] ["self", "record", "value"] (defScope s_DatabaseU_setitemU) := ⟨rfl, rfl, rfl, by decide +kernel, rfl, by decide +kernel, by decide +kernel⟩
abbrev s_Database_fates : Stmt := inClass (top 18) 25
theorem sc_Database_fates : GScope ["self", "row"] ["self"] (defScope s_Database_fates) := ⟨rfl, rfl, rfl, by decide +kernel, rfl, by decide +kernel, by decide +kernel⟩
abbrev s_Database_is_open : Stmt := inClass (top 18) 1
theorem sc_Database_is_open : FnScope ["self"] ["self"] (defScope s_Database_is_open) := ⟨rfl, rfl, rfl, by decide +kernel, rfl, by decide +kernel, by decide +kernel⟩
abbrev s_Database_levels : Stmt := inClass (top 18) 4
theorem sc_Database_levels : FnScope ["self"] ["self"] (defScope s_Database_levels) := ⟨rfl, rfl, rfl, by decide +kernel, rfl, by decide +kernel, by decide +kernel⟩
abbrev s_law_pool : Stmt := top 20
theorem sc_law_pool : FnScope ["_law_script", "_law_at", "_law_cell", "_law_size", "_law_seed"] ["_law_script", "_law_at"] (defScope s_law_pool) := ⟨rfl, rfl, rfl, by decide +kernel, rfl, by decide +kernel, by decide +kernel⟩
abbrev s_law_draw : Stmt := top 21
theorem sc_law_draw : FnScope ["_law_pool_here", "_law_many", "_law_digit", "_law_count", "_law_mixed"] ["_law_pool_here", "_law_many"] (defScope s_law_draw) := ⟨rfl, rfl, rfl, by decide +kernel, rfl, by decide +kernel, by decide +kernel⟩
abbrev s_law_word : Stmt := top 22
theorem sc_law_word : FnScope ["_law_pool_here", "_law_letters", "_law_k"] ["_law_pool_here"] (defScope s_law_word) := ⟨rfl, rfl, rfl, by decide +kernel, rfl, by decide +kernel, by decide +kernel⟩
abbrev s_law_fates : Stmt := top 23
theorem sc_law_fates : FnScope ["_law_db", "_law_records", "_law_row"] ["_law_db", "_law_records"] (defScope s_law_fates) := ⟨rfl, rfl, rfl, by decide +kernel, rfl, by decide +kernel, by decide +kernel⟩
abbrev s_law_leave : Stmt := top 24
theorem sc_law_leave : FnScope ["_law_db", "_law_error", "_law_goes", "e"] ["_law_db", "_law_error", "_law_goes"] (defScope s_law_leave) := ⟨rfl, rfl, rfl, by decide +kernel, rfl, by decide +kernel, by decide +kernel⟩
abbrev s_law_write : Stmt := top 25
theorem sc_law_write : FnScope ["_law_pool_here", "_law_db", "_law_records", "_law_prefix", "_law_record"] ["_law_pool_here", "_law_db", "_law_records", "_law_prefix"] (defScope s_law_write) := ⟨rfl, rfl, rfl, by decide +kernel, rfl, by decide +kernel, by decide +kernel⟩
abbrev s_law_fill : Stmt := top 26
theorem sc_law_fill : FnScope ["_law_pool_here", "_law_db", "_law_records", "_law_turn"] ["_law_pool_here", "_law_db", "_law_records"] (defScope s_law_fill) := ⟨rfl, rfl, rfl, by decide +kernel, rfl, by decide +kernel, by decide +kernel⟩
abbrev s_law_around : Stmt := top 27
theorem sc_law_around : FnScope ["_law_pool_here", "_law_db", "_law_turn"] ["_law_pool_here", "_law_db"] (defScope s_law_around) := ⟨rfl, rfl, rfl, by decide +kernel, rfl, by decide +kernel, by decide +kernel⟩
abbrev s_law : Stmt := top 28
theorem sc_law : FnScope ["_law_script", "_law_at", "_law_pool_here", "_law_db", "_law_records", "_law_others", "_law_mode", "_law_before", "_law_sort", "_law_word_here", "_law_error", "_law_goes", "_law_due", "_law_fate", "_law_record"] ["_law_script"] (defScope s_law) := ⟨rfl, rfl, rfl, by decide +kernel, rfl, by decide +kernel, by decide +kernel⟩
abbrev ef_Missing : List (Str × Sum Nat Str) := [("word", .inr "missing"), ("mode", .inl 0)]
theorem ec_Missing {K : PySem.W.Frag} {C fI : Addr} {nm qn : Str} {N : Addr} {bs bm : List Value} {sn : List Str} {sub : List Value} {ab : Bool} {col : Option Bool} {dd : Option Addr} {k0 k1 k2 k3 k5 : Option Value}
    {oc : Value} {od : Option Addr} {doc pm : Value} {an : Option Addr} {cda cc : Addr} {ct : Value} {osl : Array (Option Value)} {ccl : Value} {cdd : Option Addr} {vs : Array Value} {ccs : Array (Option Value)} {tf : Tok} {cl : Value} {cld : Option Addr} {csl : Array (Option Value)}
    (h1 : K.lookup C = some (excClassObj nm qn C N bs bm true sn sub ab col dd k0 k1 k2 k3 k5 "ValueError.__new__")) (h2 : PySem.HandSPX.refsVE bm = true) (h3 : PySem.W.findIn K (.ref C) "__setattr__" = some (some (.builtin "object.__setattr__")))
    (h4 : PySem.W.findIn K (.ref C) "__getattribute__" = some (some (.builtin "BaseException.__getattribute__"))) (h5 : PySem.W.findIn K (.ref C) "__getattr__" = some none) (h6 : PySem.W.findIn K (.ref C) "__init__" = some (some (.ref fI)))
    (h7 : PySem.W.typeIn K (.ref fI) = some (.type "function")) (h8 : PySem.W.keepIn K (.ref C) = true) (h9 : PySem.W.subIn K (.ref C) (.type "BaseException") = some true) (h10 : PySem.W.subIn K (.ref C) (.type "ValueError") = some true)
    (h11 : PySem.W.typeIn K (.ref C) = some (.type "type")) (h12 : PySem.W.hasDictIn K C = true) (h13 : PySem.W.ks_superIn K C C "__init__" = some (some (.builtin "ValueError.__init__"))) (h14 : PySem.W.mroIn K C (.ref C) = some true) (h15 : PySem.W.exmOne K (.ref C) (.ref C) = some true)
    (h16 : PySem.W.nsIn K cStatics "thirdparty.any" = some none) (h17 : K.lookup fI = some ⟨oc, od, .func (PySem.W.ksFn "__init__" "Missing.__init__" (defArgs s_MissingU_initU) (defBody s_MissingU_initU) (defScope s_MissingU_initU) .none .none doc pm an (.ref cda) ct cc), osl⟩) (h18 : PySem.W.codeIn K (.ref cda) "Missing.__init__" = true)
    (h19 : K.lookup cda = some ⟨ccl, cdd, .fields vs, ccs⟩) (h20 : vs[2]? = some (.str P.main.file tf)) (h21 : K.lookup cc = some ⟨cl, cld, .cell (some (.ref C)), csl⟩) (nf0 : PySem.W.findIn K (.ref C) "word" = some none) (nf1 : PySem.W.findIn K (.ref C) "mode" = some none) : ErrC P K C fI s_MissingU_initU "Missing.__init__" ["mode"] ef_Missing := by
  refine ⟨⟨nm, qn, N, bs, bm, sn, sub, ab, col, dd, k0, k1, k2, k3, k5, h1, h2⟩, h3, h4, h5, ?_, h6, h7, h8, h9, h10, h11, h12, h13, h14, h15, h16, ⟨oc, od, doc, pm, an, cda, cc, ct, osl, ccl, cdd, vs, ccs, tf, cl, cld, csl, h17, h18, h19, h20, h21⟩, ⟨_, rfl, rfl⟩, (fun _ _ _ _ _ _ us hl => match us, hl with | [_, _], _ => rfl),
    ⟨_, _, _, _, _, _, _, _, _, rfl, (.con (.par (i := 0) rfl .nil)), fun L cda cc => ⟨_, rfl⟩⟩, rfl, rfl, rfl, by decide +kernel, by decide +kernel, rfl, rfl, by decide +kernel, by decide +kernel⟩
  intro p hp
  rcases List.mem_cons.mp hp with rfl | hp
  · exact nf0
  rcases List.mem_cons.mp hp with rfl | hp
  · exact nf1
  · exact absurd hp (by simp)
abbrev ef_Present : List (Str × Sum Nat Str) := [("word", .inr "present"), ("mode", .inl 0)]
theorem ec_Present {K : PySem.W.Frag} {C fI : Addr} {nm qn : Str} {N : Addr} {bs bm : List Value} {sn : List Str} {sub : List Value} {ab : Bool} {col : Option Bool} {dd : Option Addr} {k0 k1 k2 k3 k5 : Option Value}
    {oc : Value} {od : Option Addr} {doc pm : Value} {an : Option Addr} {cda cc : Addr} {ct : Value} {osl : Array (Option Value)} {ccl : Value} {cdd : Option Addr} {vs : Array Value} {ccs : Array (Option Value)} {tf : Tok} {cl : Value} {cld : Option Addr} {csl : Array (Option Value)}
    (h1 : K.lookup C = some (excClassObj nm qn C N bs bm true sn sub ab col dd k0 k1 k2 k3 k5 "ValueError.__new__")) (h2 : PySem.HandSPX.refsVE bm = true) (h3 : PySem.W.findIn K (.ref C) "__setattr__" = some (some (.builtin "object.__setattr__")))
    (h4 : PySem.W.findIn K (.ref C) "__getattribute__" = some (some (.builtin "BaseException.__getattribute__"))) (h5 : PySem.W.findIn K (.ref C) "__getattr__" = some none) (h6 : PySem.W.findIn K (.ref C) "__init__" = some (some (.ref fI)))
    (h7 : PySem.W.typeIn K (.ref fI) = some (.type "function")) (h8 : PySem.W.keepIn K (.ref C) = true) (h9 : PySem.W.subIn K (.ref C) (.type "BaseException") = some true) (h10 : PySem.W.subIn K (.ref C) (.type "ValueError") = some true)
    (h11 : PySem.W.typeIn K (.ref C) = some (.type "type")) (h12 : PySem.W.hasDictIn K C = true) (h13 : PySem.W.ks_superIn K C C "__init__" = some (some (.builtin "ValueError.__init__"))) (h14 : PySem.W.mroIn K C (.ref C) = some true) (h15 : PySem.W.exmOne K (.ref C) (.ref C) = some true)
    (h16 : PySem.W.nsIn K cStatics "thirdparty.any" = some none) (h17 : K.lookup fI = some ⟨oc, od, .func (PySem.W.ksFn "__init__" "Present.__init__" (defArgs s_PresentU_initU) (defBody s_PresentU_initU) (defScope s_PresentU_initU) .none .none doc pm an (.ref cda) ct cc), osl⟩) (h18 : PySem.W.codeIn K (.ref cda) "Present.__init__" = true)
    (h19 : K.lookup cda = some ⟨ccl, cdd, .fields vs, ccs⟩) (h20 : vs[2]? = some (.str P.main.file tf)) (h21 : K.lookup cc = some ⟨cl, cld, .cell (some (.ref C)), csl⟩) (nf0 : PySem.W.findIn K (.ref C) "word" = some none) (nf1 : PySem.W.findIn K (.ref C) "mode" = some none) : ErrC P K C fI s_PresentU_initU "Present.__init__" ["mode"] ef_Present := by
  refine ⟨⟨nm, qn, N, bs, bm, sn, sub, ab, col, dd, k0, k1, k2, k3, k5, h1, h2⟩, h3, h4, h5, ?_, h6, h7, h8, h9, h10, h11, h12, h13, h14, h15, h16, ⟨oc, od, doc, pm, an, cda, cc, ct, osl, ccl, cdd, vs, ccs, tf, cl, cld, csl, h17, h18, h19, h20, h21⟩, ⟨_, rfl, rfl⟩, (fun _ _ _ _ _ _ us hl => match us, hl with | [_, _], _ => rfl),
    ⟨_, _, _, _, _, _, _, _, _, rfl, (.con (.par (i := 0) rfl .nil)), fun L cda cc => ⟨_, rfl⟩⟩, rfl, rfl, rfl, by decide +kernel, by decide +kernel, rfl, rfl, by decide +kernel, by decide +kernel⟩
  intro p hp
  rcases List.mem_cons.mp hp with rfl | hp
  · exact nf0
  rcases List.mem_cons.mp hp with rfl | hp
  · exact nf1
  · exact absurd hp (by simp)
abbrev ef_Doomed : List (Str × Sum Nat Str) := [("word", .inr "doomed"), ("first", .inl 0)]
theorem ec_Doomed {K : PySem.W.Frag} {C fI : Addr} {nm qn : Str} {N : Addr} {bs bm : List Value} {sn : List Str} {sub : List Value} {ab : Bool} {col : Option Bool} {dd : Option Addr} {k0 k1 k2 k3 k5 : Option Value}
    {oc : Value} {od : Option Addr} {doc pm : Value} {an : Option Addr} {cda cc : Addr} {ct : Value} {osl : Array (Option Value)} {ccl : Value} {cdd : Option Addr} {vs : Array Value} {ccs : Array (Option Value)} {tf : Tok} {cl : Value} {cld : Option Addr} {csl : Array (Option Value)}
    (h1 : K.lookup C = some (excClassObj nm qn C N bs bm true sn sub ab col dd k0 k1 k2 k3 k5 "ValueError.__new__")) (h2 : PySem.HandSPX.refsVE bm = true) (h3 : PySem.W.findIn K (.ref C) "__setattr__" = some (some (.builtin "object.__setattr__")))
    (h4 : PySem.W.findIn K (.ref C) "__getattribute__" = some (some (.builtin "BaseException.__getattribute__"))) (h5 : PySem.W.findIn K (.ref C) "__getattr__" = some none) (h6 : PySem.W.findIn K (.ref C) "__init__" = some (some (.ref fI)))
    (h7 : PySem.W.typeIn K (.ref fI) = some (.type "function")) (h8 : PySem.W.keepIn K (.ref C) = true) (h9 : PySem.W.subIn K (.ref C) (.type "BaseException") = some true) (h10 : PySem.W.subIn K (.ref C) (.type "ValueError") = some true)
    (h11 : PySem.W.typeIn K (.ref C) = some (.type "type")) (h12 : PySem.W.hasDictIn K C = true) (h13 : PySem.W.ks_superIn K C C "__init__" = some (some (.builtin "ValueError.__init__"))) (h14 : PySem.W.mroIn K C (.ref C) = some true) (h15 : PySem.W.exmOne K (.ref C) (.ref C) = some true)
    (h16 : PySem.W.nsIn K cStatics "thirdparty.any" = some none) (h17 : K.lookup fI = some ⟨oc, od, .func (PySem.W.ksFn "__init__" "Doomed.__init__" (defArgs s_DoomedU_initU) (defBody s_DoomedU_initU) (defScope s_DoomedU_initU) .none .none doc pm an (.ref cda) ct cc), osl⟩) (h18 : PySem.W.codeIn K (.ref cda) "Doomed.__init__" = true)
    (h19 : K.lookup cda = some ⟨ccl, cdd, .fields vs, ccs⟩) (h20 : vs[2]? = some (.str P.main.file tf)) (h21 : K.lookup cc = some ⟨cl, cld, .cell (some (.ref C)), csl⟩) (nf0 : PySem.W.findIn K (.ref C) "word" = some none) (nf1 : PySem.W.findIn K (.ref C) "first" = some none) : ErrC P K C fI s_DoomedU_initU "Doomed.__init__" ["first"] ef_Doomed := by
  refine ⟨⟨nm, qn, N, bs, bm, sn, sub, ab, col, dd, k0, k1, k2, k3, k5, h1, h2⟩, h3, h4, h5, ?_, h6, h7, h8, h9, h10, h11, h12, h13, h14, h15, h16, ⟨oc, od, doc, pm, an, cda, cc, ct, osl, ccl, cdd, vs, ccs, tf, cl, cld, csl, h17, h18, h19, h20, h21⟩, ⟨_, rfl, rfl⟩, (fun _ _ _ _ _ _ us hl => match us, hl with | [_, _], _ => rfl),
    ⟨_, _, _, _, _, _, _, _, _, rfl, (.con (.par (i := 0) rfl .nil)), fun L cda cc => ⟨_, rfl⟩⟩, rfl, rfl, rfl, by decide +kernel, by decide +kernel, rfl, rfl, by decide +kernel, by decide +kernel⟩
  intro p hp
  rcases List.mem_cons.mp hp with rfl | hp
  · exact nf0
  rcases List.mem_cons.mp hp with rfl | hp
  · exact nf1
  · exact absurd hp (by simp)
abbrev ef_Refused : List (Str × Sum Nat Str) := [("word", .inr "refused")]
theorem ec_Refused {K : PySem.W.Frag} {C fI : Addr} {nm qn : Str} {N : Addr} {bs bm : List Value} {sn : List Str} {sub : List Value} {ab : Bool} {col : Option Bool} {dd : Option Addr} {k0 k1 k2 k3 k5 : Option Value}
    {oc : Value} {od : Option Addr} {doc pm : Value} {an : Option Addr} {cda cc : Addr} {ct : Value} {osl : Array (Option Value)} {ccl : Value} {cdd : Option Addr} {vs : Array Value} {ccs : Array (Option Value)} {tf : Tok} {cl : Value} {cld : Option Addr} {csl : Array (Option Value)}
    (h1 : K.lookup C = some (excClassObj nm qn C N bs bm true sn sub ab col dd k0 k1 k2 k3 k5 "ValueError.__new__")) (h2 : PySem.HandSPX.refsVE bm = true) (h3 : PySem.W.findIn K (.ref C) "__setattr__" = some (some (.builtin "object.__setattr__")))
    (h4 : PySem.W.findIn K (.ref C) "__getattribute__" = some (some (.builtin "BaseException.__getattribute__"))) (h5 : PySem.W.findIn K (.ref C) "__getattr__" = some none) (h6 : PySem.W.findIn K (.ref C) "__init__" = some (some (.ref fI)))
    (h7 : PySem.W.typeIn K (.ref fI) = some (.type "function")) (h8 : PySem.W.keepIn K (.ref C) = true) (h9 : PySem.W.subIn K (.ref C) (.type "BaseException") = some true) (h10 : PySem.W.subIn K (.ref C) (.type "ValueError") = some true)
    (h11 : PySem.W.typeIn K (.ref C) = some (.type "type")) (h12 : PySem.W.hasDictIn K C = true) (h13 : PySem.W.ks_superIn K C C "__init__" = some (some (.builtin "ValueError.__init__"))) (h14 : PySem.W.mroIn K C (.ref C) = some true) (h15 : PySem.W.exmOne K (.ref C) (.ref C) = some true)
    (h16 : PySem.W.nsIn K cStatics "thirdparty.any" = some none) (h17 : K.lookup fI = some ⟨oc, od, .func (PySem.W.ksFn "__init__" "Refused.__init__" (defArgs s_RefusedU_initU) (defBody s_RefusedU_initU) (defScope s_RefusedU_initU) .none .none doc pm an (.ref cda) ct cc), osl⟩) (h18 : PySem.W.codeIn K (.ref cda) "Refused.__init__" = true)
    (h19 : K.lookup cda = some ⟨ccl, cdd, .fields vs, ccs⟩) (h20 : vs[2]? = some (.str P.main.file tf)) (h21 : K.lookup cc = some ⟨cl, cld, .cell (some (.ref C)), csl⟩) (nf0 : PySem.W.findIn K (.ref C) "word" = some none) : ErrC P K C fI s_RefusedU_initU "Refused.__init__" [] ef_Refused := by
  refine ⟨⟨nm, qn, N, bs, bm, sn, sub, ab, col, dd, k0, k1, k2, k3, k5, h1, h2⟩, h3, h4, h5, ?_, h6, h7, h8, h9, h10, h11, h12, h13, h14, h15, h16, ⟨oc, od, doc, pm, an, cda, cc, ct, osl, ccl, cdd, vs, ccs, tf, cl, cld, csl, h17, h18, h19, h20, h21⟩, ⟨_, rfl, rfl⟩, (fun _ _ _ _ _ _ us hl => match us, hl with | [_], _ => rfl),
    ⟨_, _, _, _, _, _, _, _, _, rfl, (.con .nil), fun L cda cc => ⟨_, rfl⟩⟩, rfl, rfl, rfl, by decide +kernel, by decide +kernel, rfl, rfl, by decide +kernel, by decide +kernel⟩
  intro p hp
  rcases List.mem_cons.mp hp with rfl | hp
  · exact nf0
  · exact absurd hp (by simp)
abbrev ef_NoBlock : List (Str × Sum Nat Str) := []
theorem ec_NoBlock {K : PySem.W.Frag} {C fI : Addr} {nm qn : Str} {N : Addr} {bs bm : List Value} {sn : List Str} {sub : List Value} {ab : Bool} {col : Option Bool} {dd : Option Addr} {k0 k1 k2 k3 k5 : Option Value}
    {oc : Value} {od : Option Addr} {doc pm : Value} {an : Option Addr} {cda cc : Addr} {ct : Value} {osl : Array (Option Value)} {ccl : Value} {cdd : Option Addr} {vs : Array Value} {ccs : Array (Option Value)} {tf : Tok} {cl : Value} {cld : Option Addr} {csl : Array (Option Value)}
    (h1 : K.lookup C = some (excClassObj nm qn C N bs bm true sn sub ab col dd k0 k1 k2 k3 k5 "ValueError.__new__")) (h2 : PySem.HandSPX.refsVE bm = true) (h3 : PySem.W.findIn K (.ref C) "__setattr__" = some (some (.builtin "object.__setattr__")))
    (h4 : PySem.W.findIn K (.ref C) "__getattribute__" = some (some (.builtin "BaseException.__getattribute__"))) (h5 : PySem.W.findIn K (.ref C) "__getattr__" = some none) (h6 : PySem.W.findIn K (.ref C) "__init__" = some (some (.ref fI)))
    (h7 : PySem.W.typeIn K (.ref fI) = some (.type "function")) (h8 : PySem.W.keepIn K (.ref C) = true) (h9 : PySem.W.subIn K (.ref C) (.type "BaseException") = some true) (h10 : PySem.W.subIn K (.ref C) (.type "ValueError") = some true)
    (h11 : PySem.W.typeIn K (.ref C) = some (.type "type")) (h12 : PySem.W.hasDictIn K C = true) (h13 : PySem.W.ks_superIn K C C "__init__" = some (some (.builtin "ValueError.__init__"))) (h14 : PySem.W.mroIn K C (.ref C) = some true) (h15 : PySem.W.exmOne K (.ref C) (.ref C) = some true)
    (h16 : PySem.W.nsIn K cStatics "thirdparty.any" = some none) (h17 : K.lookup fI = some ⟨oc, od, .func (PySem.W.ksFn "__init__" "NoBlock.__init__" (defArgs s_NoBlockU_initU) (defBody s_NoBlockU_initU) (defScope s_NoBlockU_initU) .none .none doc pm an (.ref cda) ct cc), osl⟩) (h18 : PySem.W.codeIn K (.ref cda) "NoBlock.__init__" = true)
    (h19 : K.lookup cda = some ⟨ccl, cdd, .fields vs, ccs⟩) (h20 : vs[2]? = some (.str P.main.file tf)) (h21 : K.lookup cc = some ⟨cl, cld, .cell (some (.ref C)), csl⟩)  : ErrC P K C fI s_NoBlockU_initU "NoBlock.__init__" [] ef_NoBlock := by
  refine ⟨⟨nm, qn, N, bs, bm, sn, sub, ab, col, dd, k0, k1, k2, k3, k5, h1, h2⟩, h3, h4, h5, ?_, h6, h7, h8, h9, h10, h11, h12, h13, h14, h15, h16, ⟨oc, od, doc, pm, an, cda, cc, ct, osl, ccl, cdd, vs, ccs, tf, cl, cld, csl, h17, h18, h19, h20, h21⟩, ⟨_, rfl, rfl⟩, (fun _ _ _ _ _ _ us hl => match us, hl with | [_], _ => rfl),
    ⟨_, _, _, _, _, _, _, _, _, rfl, .nil, fun L cda cc => ⟨_, rfl⟩⟩, rfl, rfl, rfl, by decide +kernel, by decide +kernel, rfl, rfl, by decide +kernel, by decide +kernel⟩
  intro p hp
  exact absurd hp (by simp)
abbrev ef_Waits : List (Str × Sum Nat Str) := [("word", .inr "waits"), ("record", .inl 0)]
theorem ec_Waits {K : PySem.W.Frag} {C fI : Addr} {nm qn : Str} {N : Addr} {bs bm : List Value} {sn : List Str} {sub : List Value} {ab : Bool} {col : Option Bool} {dd : Option Addr} {k0 k1 k2 k3 k5 : Option Value}
    {oc : Value} {od : Option Addr} {doc pm : Value} {an : Option Addr} {cda cc : Addr} {ct : Value} {osl : Array (Option Value)} {ccl : Value} {cdd : Option Addr} {vs : Array Value} {ccs : Array (Option Value)} {tf : Tok} {cl : Value} {cld : Option Addr} {csl : Array (Option Value)}
    (h1 : K.lookup C = some (excClassObj nm qn C N bs bm true sn sub ab col dd k0 k1 k2 k3 k5 "ValueError.__new__")) (h2 : PySem.HandSPX.refsVE bm = true) (h3 : PySem.W.findIn K (.ref C) "__setattr__" = some (some (.builtin "object.__setattr__")))
    (h4 : PySem.W.findIn K (.ref C) "__getattribute__" = some (some (.builtin "BaseException.__getattribute__"))) (h5 : PySem.W.findIn K (.ref C) "__getattr__" = some none) (h6 : PySem.W.findIn K (.ref C) "__init__" = some (some (.ref fI)))
    (h7 : PySem.W.typeIn K (.ref fI) = some (.type "function")) (h8 : PySem.W.keepIn K (.ref C) = true) (h9 : PySem.W.subIn K (.ref C) (.type "BaseException") = some true) (h10 : PySem.W.subIn K (.ref C) (.type "ValueError") = some true)
    (h11 : PySem.W.typeIn K (.ref C) = some (.type "type")) (h12 : PySem.W.hasDictIn K C = true) (h13 : PySem.W.ks_superIn K C C "__init__" = some (some (.builtin "ValueError.__init__"))) (h14 : PySem.W.mroIn K C (.ref C) = some true) (h15 : PySem.W.exmOne K (.ref C) (.ref C) = some true)
    (h16 : PySem.W.nsIn K cStatics "thirdparty.any" = some none) (h17 : K.lookup fI = some ⟨oc, od, .func (PySem.W.ksFn "__init__" "Waits.__init__" (defArgs s_WaitsU_initU) (defBody s_WaitsU_initU) (defScope s_WaitsU_initU) .none .none doc pm an (.ref cda) ct cc), osl⟩) (h18 : PySem.W.codeIn K (.ref cda) "Waits.__init__" = true)
    (h19 : K.lookup cda = some ⟨ccl, cdd, .fields vs, ccs⟩) (h20 : vs[2]? = some (.str P.main.file tf)) (h21 : K.lookup cc = some ⟨cl, cld, .cell (some (.ref C)), csl⟩) (nf0 : PySem.W.findIn K (.ref C) "word" = some none) (nf1 : PySem.W.findIn K (.ref C) "record" = some none) : ErrC P K C fI s_WaitsU_initU "Waits.__init__" ["record"] ef_Waits := by
  refine ⟨⟨nm, qn, N, bs, bm, sn, sub, ab, col, dd, k0, k1, k2, k3, k5, h1, h2⟩, h3, h4, h5, ?_, h6, h7, h8, h9, h10, h11, h12, h13, h14, h15, h16, ⟨oc, od, doc, pm, an, cda, cc, ct, osl, ccl, cdd, vs, ccs, tf, cl, cld, csl, h17, h18, h19, h20, h21⟩, ⟨_, rfl, rfl⟩, (fun _ _ _ _ _ _ us hl => match us, hl with | [_, _], _ => rfl),
    ⟨_, _, _, _, _, _, _, _, _, rfl, (.con (.par (i := 0) rfl .nil)), fun L cda cc => ⟨_, rfl⟩⟩, rfl, rfl, rfl, by decide +kernel, by decide +kernel, rfl, rfl, by decide +kernel, by decide +kernel⟩
  intro p hp
  rcases List.mem_cons.mp hp with rfl | hp
  · exact nf0
  rcases List.mem_cons.mp hp with rfl | hp
  · exact nf1
  · exact absurd hp (by simp)
abbrev ef_NoRecord : List (Str × Sum Nat Str) := [("record", .inl 0)]
theorem ec_NoRecord {K : PySem.W.Frag} {C fI : Addr} {nm qn : Str} {N : Addr} {bs bm : List Value} {sn : List Str} {sub : List Value} {ab : Bool} {col : Option Bool} {dd : Option Addr} {k0 k1 k2 k3 k5 : Option Value}
    {oc : Value} {od : Option Addr} {doc pm : Value} {an : Option Addr} {cda cc : Addr} {ct : Value} {osl : Array (Option Value)} {ccl : Value} {cdd : Option Addr} {vs : Array Value} {ccs : Array (Option Value)} {tf : Tok} {cl : Value} {cld : Option Addr} {csl : Array (Option Value)}
    (h1 : K.lookup C = some (excClassObj nm qn C N bs bm true sn sub ab col dd k0 k1 k2 k3 k5 "ValueError.__new__")) (h2 : PySem.HandSPX.refsVE bm = true) (h3 : PySem.W.findIn K (.ref C) "__setattr__" = some (some (.builtin "object.__setattr__")))
    (h4 : PySem.W.findIn K (.ref C) "__getattribute__" = some (some (.builtin "BaseException.__getattribute__"))) (h5 : PySem.W.findIn K (.ref C) "__getattr__" = some none) (h6 : PySem.W.findIn K (.ref C) "__init__" = some (some (.ref fI)))
    (h7 : PySem.W.typeIn K (.ref fI) = some (.type "function")) (h8 : PySem.W.keepIn K (.ref C) = true) (h9 : PySem.W.subIn K (.ref C) (.type "BaseException") = some true) (h10 : PySem.W.subIn K (.ref C) (.type "ValueError") = some true)
    (h11 : PySem.W.typeIn K (.ref C) = some (.type "type")) (h12 : PySem.W.hasDictIn K C = true) (h13 : PySem.W.ks_superIn K C C "__init__" = some (some (.builtin "ValueError.__init__"))) (h14 : PySem.W.mroIn K C (.ref C) = some true) (h15 : PySem.W.exmOne K (.ref C) (.ref C) = some true)
    (h16 : PySem.W.nsIn K cStatics "thirdparty.any" = some none) (h17 : K.lookup fI = some ⟨oc, od, .func (PySem.W.ksFn "__init__" "NoRecord.__init__" (defArgs s_NoRecordU_initU) (defBody s_NoRecordU_initU) (defScope s_NoRecordU_initU) .none .none doc pm an (.ref cda) ct cc), osl⟩) (h18 : PySem.W.codeIn K (.ref cda) "NoRecord.__init__" = true)
    (h19 : K.lookup cda = some ⟨ccl, cdd, .fields vs, ccs⟩) (h20 : vs[2]? = some (.str P.main.file tf)) (h21 : K.lookup cc = some ⟨cl, cld, .cell (some (.ref C)), csl⟩) (nf0 : PySem.W.findIn K (.ref C) "record" = some none) : ErrC P K C fI s_NoRecordU_initU "NoRecord.__init__" ["record"] ef_NoRecord := by
  refine ⟨⟨nm, qn, N, bs, bm, sn, sub, ab, col, dd, k0, k1, k2, k3, k5, h1, h2⟩, h3, h4, h5, ?_, h6, h7, h8, h9, h10, h11, h12, h13, h14, h15, h16, ⟨oc, od, doc, pm, an, cda, cc, ct, osl, ccl, cdd, vs, ccs, tf, cl, cld, csl, h17, h18, h19, h20, h21⟩, ⟨_, rfl, rfl⟩, (fun _ _ _ _ _ _ us hl => match us, hl with | [_, _], _ => rfl),
    ⟨_, _, _, _, _, _, _, _, _, rfl, (.par (i := 0) rfl .nil), fun L cda cc => ⟨_, rfl⟩⟩, rfl, rfl, rfl, by decide +kernel, by decide +kernel, rfl, rfl, by decide +kernel, by decide +kernel⟩
  intro p hp
  rcases List.mem_cons.mp hp with rfl | hp
  · exact nf0
  · exact absurd hp (by simp)
abbrev ef_BadWord : List (Str × Sum Nat Str) := [("word", .inl 0)]
theorem ec_BadWord {K : PySem.W.Frag} {C fI : Addr} {nm qn : Str} {N : Addr} {bs bm : List Value} {sn : List Str} {sub : List Value} {ab : Bool} {col : Option Bool} {dd : Option Addr} {k0 k1 k2 k3 k5 : Option Value}
    {oc : Value} {od : Option Addr} {doc pm : Value} {an : Option Addr} {cda cc : Addr} {ct : Value} {osl : Array (Option Value)} {ccl : Value} {cdd : Option Addr} {vs : Array Value} {ccs : Array (Option Value)} {tf : Tok} {cl : Value} {cld : Option Addr} {csl : Array (Option Value)}
    (h1 : K.lookup C = some (excClassObj nm qn C N bs bm true sn sub ab col dd k0 k1 k2 k3 k5 "ValueError.__new__")) (h2 : PySem.HandSPX.refsVE bm = true) (h3 : PySem.W.findIn K (.ref C) "__setattr__" = some (some (.builtin "object.__setattr__")))
    (h4 : PySem.W.findIn K (.ref C) "__getattribute__" = some (some (.builtin "BaseException.__getattribute__"))) (h5 : PySem.W.findIn K (.ref C) "__getattr__" = some none) (h6 : PySem.W.findIn K (.ref C) "__init__" = some (some (.ref fI)))
    (h7 : PySem.W.typeIn K (.ref fI) = some (.type "function")) (h8 : PySem.W.keepIn K (.ref C) = true) (h9 : PySem.W.subIn K (.ref C) (.type "BaseException") = some true) (h10 : PySem.W.subIn K (.ref C) (.type "ValueError") = some true)
    (h11 : PySem.W.typeIn K (.ref C) = some (.type "type")) (h12 : PySem.W.hasDictIn K C = true) (h13 : PySem.W.ks_superIn K C C "__init__" = some (some (.builtin "ValueError.__init__"))) (h14 : PySem.W.mroIn K C (.ref C) = some true) (h15 : PySem.W.exmOne K (.ref C) (.ref C) = some true)
    (h16 : PySem.W.nsIn K cStatics "thirdparty.any" = some none) (h17 : K.lookup fI = some ⟨oc, od, .func (PySem.W.ksFn "__init__" "BadWord.__init__" (defArgs s_BadWordU_initU) (defBody s_BadWordU_initU) (defScope s_BadWordU_initU) .none .none doc pm an (.ref cda) ct cc), osl⟩) (h18 : PySem.W.codeIn K (.ref cda) "BadWord.__init__" = true)
    (h19 : K.lookup cda = some ⟨ccl, cdd, .fields vs, ccs⟩) (h20 : vs[2]? = some (.str P.main.file tf)) (h21 : K.lookup cc = some ⟨cl, cld, .cell (some (.ref C)), csl⟩) (nf0 : PySem.W.findIn K (.ref C) "word" = some none) : ErrC P K C fI s_BadWordU_initU "BadWord.__init__" ["word"] ef_BadWord := by
  refine ⟨⟨nm, qn, N, bs, bm, sn, sub, ab, col, dd, k0, k1, k2, k3, k5, h1, h2⟩, h3, h4, h5, ?_, h6, h7, h8, h9, h10, h11, h12, h13, h14, h15, h16, ⟨oc, od, doc, pm, an, cda, cc, ct, osl, ccl, cdd, vs, ccs, tf, cl, cld, csl, h17, h18, h19, h20, h21⟩, ⟨_, rfl, rfl⟩, (fun _ _ _ _ _ _ us hl => match us, hl with | [_, _], _ => rfl),
    ⟨_, _, _, _, _, _, _, _, _, rfl, (.par (i := 0) rfl .nil), fun L cda cc => ⟨_, rfl⟩⟩, rfl, rfl, rfl, by decide +kernel, by decide +kernel, rfl, rfl, by decide +kernel, by decide +kernel⟩
  intro p hp
  rcases List.mem_cons.mp hp with rfl | hp
  · exact nf0
  · exact absurd hp (by simp)
abbrev ef_BadMode : List (Str × Sum Nat Str) := [("mode", .inl 0)]
theorem ec_BadMode {K : PySem.W.Frag} {C fI : Addr} {nm qn : Str} {N : Addr} {bs bm : List Value} {sn : List Str} {sub : List Value} {ab : Bool} {col : Option Bool} {dd : Option Addr} {k0 k1 k2 k3 k5 : Option Value}
    {oc : Value} {od : Option Addr} {doc pm : Value} {an : Option Addr} {cda cc : Addr} {ct : Value} {osl : Array (Option Value)} {ccl : Value} {cdd : Option Addr} {vs : Array Value} {ccs : Array (Option Value)} {tf : Tok} {cl : Value} {cld : Option Addr} {csl : Array (Option Value)}
    (h1 : K.lookup C = some (excClassObj nm qn C N bs bm true sn sub ab col dd k0 k1 k2 k3 k5 "ValueError.__new__")) (h2 : PySem.HandSPX.refsVE bm = true) (h3 : PySem.W.findIn K (.ref C) "__setattr__" = some (some (.builtin "object.__setattr__")))
    (h4 : PySem.W.findIn K (.ref C) "__getattribute__" = some (some (.builtin "BaseException.__getattribute__"))) (h5 : PySem.W.findIn K (.ref C) "__getattr__" = some none) (h6 : PySem.W.findIn K (.ref C) "__init__" = some (some (.ref fI)))
    (h7 : PySem.W.typeIn K (.ref fI) = some (.type "function")) (h8 : PySem.W.keepIn K (.ref C) = true) (h9 : PySem.W.subIn K (.ref C) (.type "BaseException") = some true) (h10 : PySem.W.subIn K (.ref C) (.type "ValueError") = some true)
    (h11 : PySem.W.typeIn K (.ref C) = some (.type "type")) (h12 : PySem.W.hasDictIn K C = true) (h13 : PySem.W.ks_superIn K C C "__init__" = some (some (.builtin "ValueError.__init__"))) (h14 : PySem.W.mroIn K C (.ref C) = some true) (h15 : PySem.W.exmOne K (.ref C) (.ref C) = some true)
    (h16 : PySem.W.nsIn K cStatics "thirdparty.any" = some none) (h17 : K.lookup fI = some ⟨oc, od, .func (PySem.W.ksFn "__init__" "BadMode.__init__" (defArgs s_BadModeU_initU) (defBody s_BadModeU_initU) (defScope s_BadModeU_initU) .none .none doc pm an (.ref cda) ct cc), osl⟩) (h18 : PySem.W.codeIn K (.ref cda) "BadMode.__init__" = true)
    (h19 : K.lookup cda = some ⟨ccl, cdd, .fields vs, ccs⟩) (h20 : vs[2]? = some (.str P.main.file tf)) (h21 : K.lookup cc = some ⟨cl, cld, .cell (some (.ref C)), csl⟩) (nf0 : PySem.W.findIn K (.ref C) "mode" = some none) : ErrC P K C fI s_BadModeU_initU "BadMode.__init__" ["mode"] ef_BadMode := by
  refine ⟨⟨nm, qn, N, bs, bm, sn, sub, ab, col, dd, k0, k1, k2, k3, k5, h1, h2⟩, h3, h4, h5, ?_, h6, h7, h8, h9, h10, h11, h12, h13, h14, h15, h16, ⟨oc, od, doc, pm, an, cda, cc, ct, osl, ccl, cdd, vs, ccs, tf, cl, cld, csl, h17, h18, h19, h20, h21⟩, ⟨_, rfl, rfl⟩, (fun _ _ _ _ _ _ us hl => match us, hl with | [_, _], _ => rfl),
    ⟨_, _, _, _, _, _, _, _, _, rfl, (.par (i := 0) rfl .nil), fun L cda cc => ⟨_, rfl⟩⟩, rfl, rfl, rfl, by decide +kernel, by decide +kernel, rfl, rfl, by decide +kernel, by decide +kernel⟩
  intro p hp
  rcases List.mem_cons.mp hp with rfl | hp
  · exact nf0
  · exact absurd hp (by simp)
structure Ad where
  Mode : Addr
  Mode_ALL : Addr
  Mode_is_mode : Addr
  p_Mode_is_mode : Addr
  is_word : Addr
  Missing : Addr
  MissingU_initU : Addr
  Present : Addr
  PresentU_initU : Addr
  Doomed : Addr
  DoomedU_initU : Addr
  Refused : Addr
  RefusedU_initU : Addr
  NoBlock : Addr
  NoBlockU_initU : Addr
  Waits : Addr
  WaitsU_initU : Addr
  NoRecord : Addr
  NoRecordU_initU : Addr
  BadWord : Addr
  BadWordU_initU : Addr
  BadMode : Addr
  BadModeU_initU : Addr
  Write : Addr
  WriteU_initU : Addr
  Transaction : Addr
  TransactionU_initU : Addr
  Database : Addr
  DatabaseU_initU : Addr
  Database_begin : Addr
  Database_enter_alone : Addr
  Database_enter_inside : Addr
  Database_enter : Addr
  Database_doom : Addr
  Database_end_level : Addr
  Database_end_transaction : Addr
  Database_leave : Addr
  Database_held_by : Addr
  Database_outer_records : Addr
  Database_would_wait : Addr
  Database_write : Addr
  DatabaseU_setitemU : Addr
  Database_fates : Addr
  Database_is_open : Addr
  p_Database_is_open : Addr
  Database_levels : Addr
  p_Database_levels : Addr
  law_pool : Addr
  law_draw : Addr
  law_word : Addr
  law_fates : Addr
  law_leave : Addr
  law_write : Addr
  law_fill : Addr
  law_around : Addr
  law : Addr
structure Fd where
  Mode_is_mode : FuncData
  is_word : FuncData
  WriteU_initU : FuncData
  TransactionU_initU : FuncData
  DatabaseU_initU : FuncData
  Database_begin : FuncData
  Database_enter_alone : FuncData
  Database_enter_inside : FuncData
  Database_enter : FuncData
  Database_doom : FuncData
  Database_end_level : FuncData
  Database_end_transaction : FuncData
  Database_leave : FuncData
  Database_held_by : FuncData
  Database_outer_records : FuncData
  Database_would_wait : FuncData
  Database_write : FuncData
  DatabaseU_setitemU : FuncData
  Database_fates : FuncData
  Database_is_open : FuncData
  Database_levels : FuncData
  law_pool : FuncData
  law_draw : FuncData
  law_word : FuncData
  law_fates : FuncData
  law_leave : FuncData
  law_write : FuncData
  law_fill : FuncData
  law_around : FuncData
  law : FuncData
structure Txt (K : PySem.W.Frag) (mg : Str → Option Value) (a : Ad) (d : Fd) : Prop where
  g_Mode : mg "Mode" = some (.ref a.Mode)
  r_Mode : ClX.CRead K a.Mode (.type "type")
  c_Mode_JOIN : ∃ u, ClX.CVal K a.Mode (.type "type") "JOIN" (.str "join") u
  c_Mode_INNER : ∃ u, ClX.CVal K a.Mode (.type "type") "INNER" (.str "inner") u
  c_Mode_APART : ∃ u, ClX.CVal K a.Mode (.type "type") "APART" (.str "apart") u
  c_Mode_MUST : ∃ u, ClX.CVal K a.Mode (.type "type") "MUST" (.str "must") u
  c_Mode_EITHER : ∃ u, ClX.CVal K a.Mode (.type "type") "EITHER" (.str "either") u
  c_Mode_NEVER : ∃ u, ClX.CVal K a.Mode (.type "type") "NEVER" (.str "never") u
  c_Mode_OUTSIDE : ∃ u, ClX.CVal K a.Mode (.type "type") "OUTSIDE" (.str "outside") u
  c_Mode_ALONE : ∃ u, ClX.CVal K a.Mode (.type "type") "ALONE" (.str "alone") u
  c_Mode_ALL : ∃ u, ClX.CVal K a.Mode (.type "type") "ALL" (.ref a.Mode_ALL) u
  q_Mode_ALL : (∀ H, SqT K H a.Mode_ALL [.str "join", .str "inner", .str "apart", .str "must", .str "either", .str "never", .str "outside", .str "alone"])
  k_Mode_ALL : (∃ o, K.lookup a.Mode_ALL = some o ∧ o.cls = .type "tuple")
  Mode_is_mode : Fun K "is_mode" "Mode.is_mode" s_Mode_is_mode a.Mode_is_mode d.Mode_is_mode
  b_Mode_is_mode : Binds K d.Mode_is_mode ["thing"] []
  s_Mode_is_mode : SMet K a.Mode (.type "type") "is_mode" a.p_Mode_is_mode a.Mode_is_mode
  is_word : Fun K "is_word" "is_word" s_is_word a.is_word d.is_word
  b_is_word : Binds K d.is_word ["thing"] []
  g_is_word : mg "is_word" = some (.ref a.is_word)
  g_Missing : mg "Missing" = some (.ref a.Missing)
  e_Missing : ErrC P K a.Missing a.MissingU_initU s_MissingU_initU "Missing.__init__" ["mode"] ef_Missing
  g_Present : mg "Present" = some (.ref a.Present)
  e_Present : ErrC P K a.Present a.PresentU_initU s_PresentU_initU "Present.__init__" ["mode"] ef_Present
  g_Doomed : mg "Doomed" = some (.ref a.Doomed)
  e_Doomed : ErrC P K a.Doomed a.DoomedU_initU s_DoomedU_initU "Doomed.__init__" ["first"] ef_Doomed
  g_Refused : mg "Refused" = some (.ref a.Refused)
  e_Refused : ErrC P K a.Refused a.RefusedU_initU s_RefusedU_initU "Refused.__init__" [] ef_Refused
  g_NoBlock : mg "NoBlock" = some (.ref a.NoBlock)
  e_NoBlock : ErrC P K a.NoBlock a.NoBlockU_initU s_NoBlockU_initU "NoBlock.__init__" [] ef_NoBlock
  g_Waits : mg "Waits" = some (.ref a.Waits)
  e_Waits : ErrC P K a.Waits a.WaitsU_initU s_WaitsU_initU "Waits.__init__" ["record"] ef_Waits
  g_NoRecord : mg "NoRecord" = some (.ref a.NoRecord)
  e_NoRecord : ErrC P K a.NoRecord a.NoRecordU_initU s_NoRecordU_initU "NoRecord.__init__" ["record"] ef_NoRecord
  g_BadWord : mg "BadWord" = some (.ref a.BadWord)
  e_BadWord : ErrC P K a.BadWord a.BadWordU_initU s_BadWordU_initU "BadWord.__init__" ["word"] ef_BadWord
  g_BadMode : mg "BadMode" = some (.ref a.BadMode)
  e_BadMode : ErrC P K a.BadMode a.BadModeU_initU s_BadModeU_initU "BadMode.__init__" ["mode"] ef_BadMode
  x_Refused_Doomed : PySem.W.exmOne K (.ref a.Refused) (.ref a.Doomed) = some false
  g_Write : mg "Write" = some (.ref a.Write)
  k_Write : Cls K a.Write
  na_Write_record : NoAttr K a.Write "record"
  na_Write_value : NoAttr K a.Write "value"
  na_Write_fate : NoAttr K a.Write "fate"
  na_Write_holder : NoAttr K a.Write "holder"
  na_Write_level : NoAttr K a.Write "level"
  WriteU_initU : Fun K "__init__" "Write.__init__" s_WriteU_initU a.WriteU_initU d.WriteU_initU
  b_WriteU_initU : Binds K d.WriteU_initU ["self", "record", "value", "fate", "holder", "level"] []
  mk_Write : Mk K a.Write a.WriteU_initU
  g_Transaction : mg "Transaction" = some (.ref a.Transaction)
  k_Transaction : Cls K a.Transaction
  na_Transaction_number : NoAttr K a.Transaction "number"
  na_Transaction_reasons : NoAttr K a.Transaction "reasons"
  TransactionU_initU : Fun K "__init__" "Transaction.__init__" s_TransactionU_initU a.TransactionU_initU d.TransactionU_initU
  b_TransactionU_initU : Binds K d.TransactionU_initU ["self", "number"] []
  mk_Transaction : Mk K a.Transaction a.TransactionU_initU
  g_Database : mg "Database" = some (.ref a.Database)
  k_Database : Cls K a.Database
  na_Database_rows : NoAttr K a.Database "rows"
  na_Database_stack : NoAttr K a.Database "stack"
  na_Database_entered : NoAttr K a.Database "entered"
  na_Database_floor : NoAttr K a.Database "floor"
  na_Database_opened : NoAttr K a.Database "opened"
  DatabaseU_initU : Fun K "__init__" "Database.__init__" s_DatabaseU_initU a.DatabaseU_initU d.DatabaseU_initU
  b_DatabaseU_initU : Binds K d.DatabaseU_initU ["self"] []
  mk_Database : Mk K a.Database a.DatabaseU_initU
  Database_begin : Fun K "begin" "Database.begin" s_Database_begin a.Database_begin d.Database_begin
  b_Database_begin : Binds K d.Database_begin ["self"] []
  m_Database_begin : Meth K a.Database "begin" a.Database_begin
  Database_enter_alone : Fun K "enter_alone" "Database.enter_alone" s_Database_enter_alone a.Database_enter_alone d.Database_enter_alone
  b_Database_enter_alone : Binds K d.Database_enter_alone ["self", "mode"] []
  m_Database_enter_alone : Meth K a.Database "enter_alone" a.Database_enter_alone
  Database_enter_inside : Fun K "enter_inside" "Database.enter_inside" s_Database_enter_inside a.Database_enter_inside d.Database_enter_inside
  b_Database_enter_inside : Binds K d.Database_enter_inside ["self", "mode", "present"] []
  m_Database_enter_inside : Meth K a.Database "enter_inside" a.Database_enter_inside
  Database_enter : Fun K "enter" "Database.enter" s_Database_enter a.Database_enter d.Database_enter
  b_Database_enter : Binds K d.Database_enter ["self", "mode"] []
  m_Database_enter : Meth K a.Database "enter" a.Database_enter
  Database_doom : FunD K "doom" "Database.doom" (defArgs s_Database_doom) (defBody s_Database_doom) (defScope s_Database_doom) [.str "doom"] [] a.Database_doom d.Database_doom
  m_Database_doom : Meth K a.Database "doom" a.Database_doom
  Database_end_level : Fun K "end_level" "Database.end_level" s_Database_end_level a.Database_end_level d.Database_end_level
  b_Database_end_level : Binds K d.Database_end_level ["self", "error"] []
  m_Database_end_level : Meth K a.Database "end_level" a.Database_end_level
  Database_end_transaction : Fun K "end_transaction" "Database.end_transaction" s_Database_end_transaction a.Database_end_transaction d.Database_end_transaction
  b_Database_end_transaction : Binds K d.Database_end_transaction ["self", "error", "commits"] []
  m_Database_end_transaction : Meth K a.Database "end_transaction" a.Database_end_transaction
  Database_leave : FunD K "leave" "Database.leave" (defArgs s_Database_leave) (defBody s_Database_leave) (defScope s_Database_leave) [.non] [("commits", .bl true)] a.Database_leave d.Database_leave
  m_Database_leave : Meth K a.Database "leave" a.Database_leave
  Database_held_by : Fun K "held_by" "Database.held_by" s_Database_held_by a.Database_held_by d.Database_held_by
  b_Database_held_by : Binds K d.Database_held_by ["self", "numbers"] []
  m_Database_held_by : Meth K a.Database "held_by" a.Database_held_by
  Database_outer_records : Fun K "outer_records" "Database.outer_records" s_Database_outer_records a.Database_outer_records d.Database_outer_records
  b_Database_outer_records : Binds K d.Database_outer_records ["self"] []
  m_Database_outer_records : Meth K a.Database "outer_records" a.Database_outer_records
  Database_would_wait : Fun K "would_wait" "Database.would_wait" s_Database_would_wait a.Database_would_wait d.Database_would_wait
  b_Database_would_wait : Binds K d.Database_would_wait ["self", "record"] []
  m_Database_would_wait : Meth K a.Database "would_wait" a.Database_would_wait
  Database_write : Fun K "write" "Database.write" s_Database_write a.Database_write d.Database_write
  b_Database_write : Binds K d.Database_write ["self", "record", "value"] []
  m_Database_write : Meth K a.Database "write" a.Database_write
  DatabaseU_setitemU : Fun K "__setitem__" "Database.__setitem__" s_DatabaseU_setitemU a.DatabaseU_setitemU d.DatabaseU_setitemU
  b_DatabaseU_setitemU : Binds K d.DatabaseU_setitemU ["self", "record", "value"] []
  m_DatabaseU_setitemU : Meth K a.Database "__setitem__" a.DatabaseU_setitemU
  Database_fates : Fun K "fates" "Database.fates" s_Database_fates a.Database_fates d.Database_fates
  b_Database_fates : Binds K d.Database_fates ["self"] []
  m_Database_fates : Meth K a.Database "fates" a.Database_fates
  Database_is_open : Fun K "is_open" "Database.is_open" s_Database_is_open a.Database_is_open d.Database_is_open
  b_Database_is_open : Binds K d.Database_is_open ["self"] []
  m_Database_is_open : PropOf K a.Database "is_open" a.p_Database_is_open a.Database_is_open
  Database_levels : Fun K "levels" "Database.levels" s_Database_levels a.Database_levels d.Database_levels
  b_Database_levels : Binds K d.Database_levels ["self"] []
  m_Database_levels : PropOf K a.Database "levels" a.p_Database_levels a.Database_levels
  ns_Database : PySem.W.noSeq K a.Database = true
  law_pool : Fun K "_law_pool" "_law_pool" s_law_pool a.law_pool d.law_pool
  b_law_pool : Binds K d.law_pool ["_law_script", "_law_at"] []
  g_law_pool : mg "_law_pool" = some (.ref a.law_pool)
  law_draw : Fun K "_law_draw" "_law_draw" s_law_draw a.law_draw d.law_draw
  b_law_draw : Binds K d.law_draw ["_law_pool_here", "_law_many"] []
  g_law_draw : mg "_law_draw" = some (.ref a.law_draw)
  law_word : Fun K "_law_word" "_law_word" s_law_word a.law_word d.law_word
  b_law_word : Binds K d.law_word ["_law_pool_here"] []
  g_law_word : mg "_law_word" = some (.ref a.law_word)
  law_fates : Fun K "_law_fates" "_law_fates" s_law_fates a.law_fates d.law_fates
  b_law_fates : Binds K d.law_fates ["_law_db", "_law_records"] []
  g_law_fates : mg "_law_fates" = some (.ref a.law_fates)
  law_leave : Fun K "_law_leave" "_law_leave" s_law_leave a.law_leave d.law_leave
  b_law_leave : Binds K d.law_leave ["_law_db", "_law_error", "_law_goes"] []
  g_law_leave : mg "_law_leave" = some (.ref a.law_leave)
  law_write : Fun K "_law_write" "_law_write" s_law_write a.law_write d.law_write
  b_law_write : Binds K d.law_write ["_law_pool_here", "_law_db", "_law_records", "_law_prefix"] []
  g_law_write : mg "_law_write" = some (.ref a.law_write)
  law_fill : Fun K "_law_fill" "_law_fill" s_law_fill a.law_fill d.law_fill
  b_law_fill : Binds K d.law_fill ["_law_pool_here", "_law_db", "_law_records"] []
  g_law_fill : mg "_law_fill" = some (.ref a.law_fill)
  law_around : Fun K "_law_around" "_law_around" s_law_around a.law_around d.law_around
  b_law_around : Binds K d.law_around ["_law_pool_here", "_law_db"] []
  g_law_around : mg "_law_around" = some (.ref a.law_around)
  law : Fun K "law" "law" s_law a.law d.law
  b_law : Binds K d.law ["_law_script"] []
  g_law : mg "law" = some (.ref a.law)
  n_isinstance : mg "isinstance" = none
  n_str : mg "str" = none
  n_len : mg "len" = none
  n_super : mg "super" = none
  n_sorted : mg "sorted" = none
  n_abs : mg "abs" = none
  n_int : mg "int" = none
  n_range : mg "range" = none
  n_list : mg "list" = none
  n_max : mg "max" = none
  n_min : mg "min" = none

section
variable {w : World} {K : PySem.W.Frag} {mg : Str → Option Value} {base : Heap} {a : Ad} {d : Fd}
theorem ok_law_draw (T : Txt K mg a d) : FnOk P w K mg base CX0 1 a.law_draw d.law_draw ["_law_pool_here", "_law_many"] spDraw := by
  refine T.law_draw.ok sc_law_draw (fun vs H Q E h => ?_) (fun cdv A outer s H vs Q E hr h => ?_)
  · obtain ⟨p, m, c, o, rfl, _⟩ := h
    rfl
  · obtain ⟨p, m, c, o, rfl, hp, ⟨x, y, n, rfl, hx, hy, hy2, hn, hn2⟩, hm, hm2, hc, k⟩ := h
    have hw : ∀ i : Int, CDivW i m := fun i => wide_div (b := 200) hm (by omega) (by decide) (by decide)
    have e1 : (b2 : Int) → 0 ≤ b2 → b2 < 2 ^ 62 → CPow (b2 + 48611 * (n + 1)) 3 := fun b2 h1 h2 => ⟨by decide, by decide, by omega⟩
    have e2 : (b2 : Int) → 0 ≤ b2 → b2 < 2 ^ 62 → CPow (b2 + 104729 * (n + 1)) 3 := fun b2 h1 h2 => ⟨by decide, by decide, by omega⟩
    have e3 : ∀ i j : Int, -1000000 < i → i < 1000000 → CMul i j := fun i j h1 h2 => .inl ⟨by omega, by omega⟩
    refine ⟨_, (pss_cons (ps_if (pt_cmpR op_gt (pe_ix ix_list (pv 0) pe_int (fun _ _ => rfl)) pe_int (nomark _)) (pss_cons (ps_set (i := 2) sc_law_draw.nd rfl (Or.inl rfl) (pe_op op_mod (pe_callTy call_int1 (by rfl) T.n_int (by decide +kernel) (pa_cons (pe_ix ix_list (pv 0) pe_int (fun _ _ => rfl)) pa_nil)) (pv 1)))
  (pss_cons (ps_asg (pe_op op_fdivW (pe_ix ix_list (pv 0) pe_int (fun _ _ => rfl)) (pv 1)) (pg_sub (pv 0) pe_int set_list))
  (pss_one (ps_ret (pv 2))))) pss_nil)
  (pss_cons (ps_set (i := 3) sc_law_draw.nd rfl (Or.inl rfl) (pe_op op_add (pe_ix ix_list (pv 0) pe_int (fun _ _ => rfl)) pe_int))
  (pss_cons (ps_asg (pv 3) (pg_sub (pv 0) pe_int set_list))
  (pss_cons (ps_set (i := 4) sc_law_draw.nd rfl (Or.inl rfl) (pe_op op_mod (pe_callTy call_int1 (by rfl) T.n_int (by decide +kernel) (pa_cons (pe_op op_add (pe_op op_pow (pe_op op_add (pe_ix ix_list (pv 0) pe_int (fun _ _ => rfl)) (pe_op op_mul pe_int (pv 3))) pe_int) (pe_op op_mul pe_int (pv 3))) pa_nil)) pe_int))
  (pss_cons (ps_set (i := 4) sc_law_draw.nd rfl (Or.inl rfl) (pe_op op_mod (pe_callTy call_int1 (by rfl) T.n_int (by decide +kernel) (pa_cons (pe_op op_pow (pe_op op_add (pv 4) (pe_op op_mul pe_int (pv 3))) pe_int) pa_nil)) pe_int))
  (pss_one (ps_ret (pe_op op_mod (pe_callTy call_int1 (by rfl) T.n_int (by decide +kernel) (pa_cons (pe_op op_fdivW (pv 4) pe_int) pa_nil)) (pv 1))))))))), ?_⟩
    dsimp only [cxOf]
    walk_at "rd"
    refine ite2 (fun c0 => ?_) (fun c0 => ?_)
    · have c1 : 0 < x := of_decide_eq_true c0
      walk_at "rd"
      refine And.intro (hw _) ?_
      walk_at "rd"
      refine k _ _ (Int.emod_nonneg _ (by omega)) (Int.emod_lt_of_pos _ hm) ⟨_, _, _, rfl, Int.ediv_nonneg (by omega) (by omega), hy, hy2, hn, by omega⟩
    · walk_at "rd"
      refine And.intro (e1 _ hy hy2) ?_
      walk_at "rd"
      refine And.intro (e2 _ (Int.emod_nonneg _ (by decide)) (Int.lt_trans (Int.emod_lt_of_pos _ (by decide)) (by decide))) ?_
      walk_at "rd"
      refine k _ _ (Int.emod_nonneg _ (by omega)) (Int.emod_lt_of_pos _ hm) ⟨_, _, _, rfl, hx, hy, hy2, by omega, by omega⟩
theorem ok_law_pool (T : Txt K mg a d) : FnOk P w K mg base CX0 1 a.law_pool d.law_pool ["_law_script", "_law_at"] (spPool K) := by
  refine T.law_pool.ok sc_law_pool (fun vs H Q E h => ?_) (fun cdv A outer s H vs Q E hr h => ?_)
  · obtain ⟨p, ns, i, rfl, _⟩ := h
    rfl
  · obtain ⟨p, ns, i, rfl, hS, hi, k⟩ := h
    have e3 : ∀ i j : Int, -1000000 < i → i < 1000000 → CMul i j := fun i j h1 h2 => .inl ⟨by omega, by omega⟩
    have e4 : ∀ i j : Int, -1000000 < j → j < 1000000 → CMul i j := fun i j h1 h2 => .inr ⟨by omega, by omega⟩
    refine ⟨_, (pss_cons (ps_set (i := 2) sc_law_pool.nd rfl (Or.inl rfl) (pe_ifExp (pt_cmpR op_lt (pv 1) (pe_callB call_len_seq (by rfl) T.n_len PySem.boot_len (pa_cons (pv 0) pa_nil)) (nomark _)) (pe_ix ix_list (pv 0) (pv 1) (fun _ _ => rfl)) pe_int))
  (pss_cons (ps_set (i := 3) sc_law_pool.nd rfl (Or.inl rfl) (pe_callB call_abs (by rfl) T.n_abs (by decide +kernel) (pa_cons (pv 2) pa_nil)))
  (pss_cons (ps_set (i := 4) sc_law_pool.nd rfl (Or.inl rfl) (pe_op op_mod (pe_callTy call_int1 (by rfl) T.n_int (by decide +kernel) (pa_cons (pe_op op_add (pe_op op_add (pe_op op_mul (pv 3) pe_int) (pe_op op_mul pe_int (pv 1))) (pe_callTy call_int1 (by rfl) T.n_int (by decide +kernel) (pa_cons (pe_cmpR op_lt (pv 2) pe_int (nomark _)) pa_nil))) pa_nil)) pe_int))
  (pss_one (ps_ret (pe_lst (pa_cons (pe_ifExp (pt_cmpR op_ge (pv 3) (pe_op op_pow pe_int pe_int) (nomark _)) (pv 3) pe_int) (pa_cons (pe_op op_add (pv 4) pe_int) (pa_cons pe_int pa_nil))))))))), ?_⟩
    dsimp only [cxOf]
    walk_at "rd"
    refine ite2 (fun c0 => ?_) (fun c0 => ?_)
    · have c1 : (i : Int) < ((ns.map V.int).length : Int) := of_decide_eq_true c0
      rw [List.length_map] at c1
      have c2 : i < ns.length := by omega
      have hz : (ns.map V.int)[i]? = some (.int ns[i]) := by
        rw [List.getElem?_map, List.getElem?_eq_getElem c2]; rfl
      walk_at "rd"
      refine And.intro (atI_nat hz) ?_
      walk_at "rd"
      refine ite2 (fun c2 => ?_) (fun c2 => ?_)
      all_goals
        walk_at "rd"
        intro q hq
        exact k q _ hq ⟨_, _, _, rfl, (by first | (split <;> omega) | decide), Int.add_nonneg (Int.emod_nonneg _ (by decide)) (by decide), Int.lt_trans (Int.add_lt_add_right (Int.emod_lt_of_pos _ (by decide)) _) (by decide), Int.le_refl 0, Int.le_refl 0⟩
    · walk_at "rd"
      intro q hq
      exact k q _ hq ⟨_, _, _, rfl, Int.le_refl 0, Int.add_nonneg (Int.emod_nonneg _ (by decide)) (by decide), Int.lt_trans (Int.add_lt_add_right (Int.emod_lt_of_pos _ (by decide)) _) (by decide), Int.le_refl 0, Int.le_refl 0⟩
theorem ok_law_word (T : Txt K mg a d) : FnOk P w K mg base CX0 2 a.law_word d.law_word ["_law_pool_here"] spWord := by
  have G_law_draw : FnOk P w K mg base CX0 1 a.law_draw d.law_draw ["_law_pool_here", "_law_many"] spDraw := ok_law_draw T
  refine T.law_word.ok sc_law_word (fun vs H Q E h => ?_) (fun cdv A outer s H vs Q E hr h => ?_)
  · obtain ⟨p, c, o, rfl, _⟩ := h
    rfl
  · obtain ⟨p, c, o, rfl, hp, hc, hb, k⟩ := h
    refine ⟨_, (pss_cons (ps_set (i := 1) sc_law_word.nd rfl (Or.inr rfl) pe_str)
  (pss_one (ps_ret (pe_join pe_str (pe_lc (own := [("_law_k", 2)]) (tt := tYes) rfl sc_law_word.nd (pi_range1 (by rfl) T.n_range (pa_cons (pe_op op_add pe_int (pe_call G_law_draw (hr.mono (by decide)) (by rfl) T.g_law_draw T.law_draw.kp T.b_law_draw .nil pass0 (pa_cons (pv 0) (pa_cons pe_int pa_nil)))) pa_nil)) (blkOk_by (own := [("_law_k", 2)]) (N := ["_law_pool_here", "_law_letters", "_law_k"]) (sc := defScope s_law_word) (by decide +kernel)) (fun _ _ _ _ _ => (pg_name (i := 2) sc_law_word.nd rfl (Or.inl rfl))) (fun _ _ _ _ _ => pts_nil) (fun _ _ _ _ _ => (pe_ix ix_str (pv 1) (pe_call G_law_draw (hr.mono (by decide)) (by rfl) T.g_law_draw T.law_draw.kp T.b_law_draw .nil pass0 (pa_cons (pv 0) (pa_cons pe_int pa_nil))) (fun _ _ => rfl)))))))), ?_⟩
    dsimp only [cxOf]
    walk_at "rd"
    intro r o1 r0 r1 h1
    walk_at "rd"
    intro D hD
    refine lc_letters (c := c + 1) hD upd_same h1 (by omega) (by omega) rfl rfl (by decide) (by decide) fun H' cs o2 e1 e2 e3 e4 e5 e6 => ?_
    refine ⟨_, _, cs.map chr1, rfl, rfl, Or.inl (SqL.of e6), ?_, ?_⟩
    · rw [sum_chr, e1]
      have : (Str.ofString "").length = 0 := by decide +kernel
      rw [this]; omega
    · rw [join_chr]
      refine k _ o2 _ ⟨?_, ?_, e2⟩ (e5.mono (by omega)) e4 (Kp.refl.set1.trans e3)
      · show 1 ≤ cs.length
        omega
      · show cs.length ≤ 8
        omega
theorem ok_is_word (T : Txt K mg a d) : FnOk P w K mg base CX0 1 a.is_word d.is_word ["thing"] spIsWord := by
  refine T.is_word.ok sc_is_word (fun vs H Q E h => ?_) (fun cdv A outer s H vs Q E hr h => ?_)
  · obtain ⟨v, rfl, _⟩ := h
    rfl
  · obtain ⟨v, rfl, hv, k⟩ := h
    refine ⟨_, (pss_cons (ps_if (PW.pt (pw_or (pt_not (pt_val (pe_callB call_isi (by rfl) T.n_isinstance (by decide +kernel) (pa_cons (pv 0) (pa_cons (pe_bltn (v := .ty "str") (u := .type "str") (by rfl) T.n_str (by decide +kernel) rfl) pa_nil))))) (pw_or1 (pt_not (pt_chain op_le op_le pe_int (pe_callB call_len_str (by rfl) T.n_len PySem.boot_len (pa_cons (pv 0) pa_nil)) pe_int))))) (pss_one (ps_ret pe_bl)) pss_nil)
  (pss_cons (ps_for PassesOwn.never rfl (pi_str (pv 0)) (pg_name (i := 1) sc_is_word.nd rfl (Or.inl rfl))
  (pss_one (ps_if (pt_not (pt_chain op_le_str op_le_str pe_str (pv 1) pe_str)) (pss_one (ps_ret pe_bl)) pss_nil)))
  (pss_one (ps_ret pe_bl)))), ?_⟩
    dsimp only [cxOf]
    obtain ⟨ty, h1, h2⟩ := hv.isi (K := K)
    refine ⟨_, rfl, _, _, _, _, _, rfl, ClsV.ty _, h1, h2, _, rfl, ?_⟩
    cases hv with
    | str z hz ha0 =>
      refine iteF ?_
      have hs : z.length ≤ sizeLine := by rw [sizeLine_eq]; omega
      refine ⟨_, rfl, z, rfl, hs, ?_⟩
      walk_at "rd"
      by_cases c1 : (1 : Int) ≤ (z.length : Int)
      · rw [decide_eq_true c1]
        refine iteT ?_
        walk_at "rd"
        by_cases c2 : (z.length : Int) ≤ 8
        · rw [decide_eq_true c2]
          refine iteF ?_
          walk_at "rd"
          refine for_it (walk_str (z := z)) (fun i σ H' => H' = H ∧ ∃ v, σ = [some (.str z), v] ∧ (z.cps.toList.take i).all okC = true) ?_ (fun _ _ _ _ _ => trivial) ?_ ?_
          · exact ⟨rfl, none, rfl, rfl⟩
          · rintro i x σ H1 H2 hi ⟨rfl, v, rfl, ha⟩ ⟨rfl, c, hc, rfl⟩
            have hc' : z.cps.toList[i]? = some c := by rw [Array.getElem?_toList]; exact hc
            walk_at "rd"
            rw [le_a]
            by_cases d1 : 97 ≤ c
            · rw [decide_eq_true d1]
              refine iteT ?_
              walk_at "rd"
              rw [le_z]
              by_cases d2 : c ≤ 122
              · rw [decide_eq_true d2]
                refine iteF ?_
                refine ⟨rfl, _, rfl, all_take hc' ha ?_⟩
                unfold okC; rw [decide_eq_true d1, decide_eq_true d2]; rfl
              · rw [decide_eq_false d2]
                refine iteT ?_
                have : wordB (.str z) = false := by
                  show wordS z = false
                  unfold wordS; rw [all_no hc' (show okC c = false by unfold okC; rw [decide_eq_false d2, Bool.and_false]), Bool.and_false]
                rw [this] at k
                exact k
            · rw [decide_eq_false d1]
              refine iteF ?_
              walk_at "rd"
              refine iteT ?_
              have : wordB (.str z) = false := by
                show wordS z = false
                unfold wordS; rw [all_no hc' (show okC c = false by unfold okC; rw [decide_eq_false d1, Bool.false_and]), Bool.and_false]
              rw [this] at k
              exact k
          · rintro σ H1 ⟨rfl, v, rfl, ha⟩
            have e : (z.cps.toList.take z.cps.size) = z.cps.toList := List.take_of_length_le (by simp)
            rw [e] at ha
            have : wordB (.str z) = true := by
              show wordS z = true
              unfold wordS; rw [ha, decide_eq_true (show 1 ≤ z.length by omega), decide_eq_true (show z.length ≤ 8 by omega)]; rfl
            rw [this] at k
            exact k
        · rw [decide_eq_false c2]
          refine iteT ?_
          have : wordB (.str z) = false := by
            show wordS z = false
            unfold wordS; rw [decide_eq_false (show ¬ z.length ≤ 8 by omega), Bool.and_false, Bool.false_and]
          rw [this] at k
          exact k
      · rw [decide_eq_false c1]
        refine iteF ?_
        walk_at "rd"
        refine iteT ?_
        have : wordB (.str z) = false := by
          show wordS z = false
          unfold wordS; rw [decide_eq_false (show ¬ 1 ≤ z.length by omega), Bool.false_and, Bool.false_and]
        rw [this] at k
        exact k
    | int i => exact iteT (iteT k)
    | bl b => exact iteT (iteT k)
    | non => exact iteT (iteT k)
    | lst h => exact iteT (iteT k)
    | tup h => exact iteT (iteT k)
/-! ### modes -/
abbrev modesS : List Str := ["join", "inner", "apart", "must", "either", "never", "outside", "alone"]
abbrev modesV : List V := [.str "join", .str "inner", .str "apart", .str "must", .str "either", .str "never", .str "outside", .str "alone"]
def modeB (v : V) : Bool := strB v && inV v modesV
theorem strB_flat {v : V} (h : strB v = true) : flatV v = true := by
  cases v <;> first | rfl | cases h
def spIsMode : Sp := fun vs H Q _ => ∃ v, vs = [v] ∧ Thing H v ∧ Q (.bl (modeB v)) H
theorem ok_Mode_is_mode (T : Txt K mg a d) : FnOk P w K mg base CX0 1 a.Mode_is_mode d.Mode_is_mode ["thing"] spIsMode := by
  refine T.Mode_is_mode.ok sc_Mode_is_mode (fun vs H Q E h => ?_) (fun cdv A outer s H vs Q E hr h => ?_)
  · obtain ⟨v, rfl, _⟩ := h
    rfl
  · obtain ⟨v, rfl, hv, k⟩ := h
    refine ⟨_, (pss_one (ps_ret (pe_and (pe_callB call_isi (by rfl) T.n_isinstance (by decide +kernel) (pa_cons (pv 0) (pa_cons (pe_bltn (v := .ty "str") (u := .type "str") (by rfl) T.n_str (by decide +kernel) rfl) pa_nil))) (pe_one (pe_cmpR op_in_seq (pv 0) (ClX.pe_cval (pe_glob (v := .ref a.Mode) (by rfl) T.g_Mode rfl)) (by rfl)))))), ?_⟩
    dsimp only [cxOf]
    obtain ⟨ty, h1, h2⟩ := hv.isi (K := K)
    refine ⟨_, rfl, _, _, _, _, _, rfl, ClsV.ty _, h1, h2, _, rfl, ?_⟩
    obtain ⟨u, hu⟩ := T.c_Mode_ALL
    unfold modeB at k
    cases hb : strB v with
    | true =>
      rw [hb] at k
      refine iteT ⟨_, rfl, _, _, _, _, rfl, T.r_Mode, hu, _, _, rfl, .inr (T.q_Mode_ALL H), strB_flat hb, rfl, k⟩
    | false =>
      rw [hb] at k
      exact iteF k
theorem mode_thing {H : Hp} {m : Str} (h : m ∈ modesS) : Thing H (.str m) := by
  refine .str m ?_ ?_
  · have : modesS.all (fun m => decide (m.length ≤ 1000)) = true := by decide +kernel
    exact of_decide_eq_true (List.all_eq_true.mp this m h)
  · intro c hc
    have : modesS.all (fun m => m.cps.toList.all fun c => decide (c < 128)) = true := by decide +kernel
    exact of_decide_eq_true (List.all_eq_true.mp (List.all_eq_true.mp this m h) c hc)
theorem mode_isB {m : Str} (h : m ∈ modesS) : modeB (.str m) = true := by
  have : modesS.all (fun m => modeB (.str m)) = true := by decide +kernel
  exact List.all_eq_true.mp this m h
/-! ### Transaction(n), Database() -/
abbrev DB (a : Ad) := DbAt a.Database a.Transaction a.Write
def spTxI (a : Ad) : Sp := fun vs H Q _ => ∃ (x dx : Addr) (n : Int), vs = [.ref x, .int n] ∧ H x = some (.ins a.Transaction dx []) ∧ ∀ q, H q = none → q ≠ x → Q .non (upd (upd (upd H x (.ins a.Transaction dx [("number", .int n)])) q (.lst [.non])) x (.ins a.Transaction dx (txF n q)))
theorem ok_TransactionU_initU (T : Txt K mg a d) : FnOk P w K mg base CX0 1 a.TransactionU_initU d.TransactionU_initU ["self", "number"] (spTxI a) := by
  refine T.TransactionU_initU.ok sc_TransactionU_initU (fun vs H Q E h => ?_) (fun cdv A outer s H vs Q E hr h => ?_)
  · obtain ⟨x, dx, n, rfl, _⟩ := h
    rfl
  · obtain ⟨x, dx, n, rfl, hx, k⟩ := h
    have c1 := T.k_Transaction
    have n1 := T.na_Transaction_number
    have n2 := T.na_Transaction_reasons
    refine ⟨_, (pss_cons (ps_fld (pv 0) (pv 1) rfl)
  (pss_one (ps_fld (pv 0) (pe_lst (pa_cons pe_non pa_nil)) rfl))), ?_⟩
    dsimp only [cxOf]
    walk_at "rd"
    intro q hq
    have hqx : q ≠ x := fun e => by rw [e, upd_same] at hq; cases hq
    rw [upd_ne hqx] at hq
    have h1 : (upd (upd H x (.ins a.Transaction dx [("number", .int n)])) q (.lst [.non])) x = some (.ins a.Transaction dx [("number", .int n)]) := upd_oth (Ne.symm hqx) upd_same
    walk_at "rd"
    exact k q hq hqx
def spDbI (a : Ad) : Sp := fun vs H Q _ => ∃ (x dx : Addr), vs = [.ref x] ∧ H x = some (.ins a.Database dx []) ∧
  ∀ H' L, DB a H' L ⟨[], [none], [], 0, 0⟩ → L.db = x → Kp (fun b => b = x) H H' → (∀ b, Mut L b → b = x ∨ H b = none) → Q .non H'
theorem ok_DatabaseU_initU (T : Txt K mg a d) : FnOk P w K mg base CX0 1 a.DatabaseU_initU d.DatabaseU_initU ["self"] (spDbI a) := by
  refine T.DatabaseU_initU.ok sc_DatabaseU_initU (fun vs H Q E h => ?_) (fun cdv A outer s H vs Q E hr h => ?_)
  · obtain ⟨x, dx, rfl, _⟩ := h
    rfl
  · obtain ⟨x, dx, rfl, hx, k⟩ := h
    have c1 := T.k_Database
    have n1 := T.na_Database_rows
    have n2 := T.na_Database_stack
    have n3 := T.na_Database_entered
    have n4 := T.na_Database_floor
    have n5 := T.na_Database_opened
    refine ⟨_, (pss_cons (ps_fld (pv 0) (pe_lst pa_nil) rfl)
  (pss_cons (ps_fld (pv 0) (pe_lst (pa_cons pe_non pa_nil)) rfl)
  (pss_cons (ps_fld (pv 0) (pe_lst pa_nil) rfl)
  (pss_cons (ps_fld (pv 0) pe_int rfl)
  (pss_one (ps_fld (pv 0) pe_int rfl)))))), ?_⟩
    dsimp only [cxOf]
    walk_at "rd"
    intro r hr0
    have nxr := ne_of_none hx hr0
    walk_at "rd"
    intro s1 hs
    obtain ⟨nsx, hs1⟩ := none_upd hs
    obtain ⟨nsr, hs2⟩ := none_upd hs1
    walk_at "rd"
    intro e1 he
    obtain ⟨nex, he1⟩ := none_upd he
    obtain ⟨nes, he2⟩ := none_upd he1
    obtain ⟨nex, he3⟩ := none_upd he2
    obtain ⟨ner, he4⟩ := none_upd he3
    walk_at "rd"
    refine k _ ⟨x, dx, r, s1, e1, [], [none]⟩ ⟨upd_same, ?_, ?_, ?_, .nil, .cons trivial .nil, Ne.symm nsr, Ne.symm ner, Ne.symm nes, (fun t m => by simp at m), by simp, by simp, by simp⟩ rfl ?_ ?_
    · show (_ : Hp) r = some (.lst [])
      walk_at "hp"
    · show (_ : Hp) s1 = some (.lst [.non])
      walk_at "hp"
    · show (_ : Hp) e1 = some (.lst [])
      walk_at "hp"
    · walk_at "kp"
    · intro b hb
      rcases hb with rfl | rfl | rfl | rfl | ⟨t, m, rfl⟩ | ⟨w, m, rfl⟩
      · exact .inl rfl
      · exact .inr hr0
      · exact .inr hs2
      · exact .inr he4
      · simp at m
      · simp at m
/-! ### the database's methods -/
structure Sm (D : Db) : Prop where
  e : D.entered.length ≤ 100000
  s : D.stack.length ≤ 100000
  r : ∀ x, some x ∈ D.stack → x.rs.length ≤ 100000
  n : D.rows.length ≤ 4000
inductive EK
  | missing (m : Str)
  | present (m : Str)
  | doomed (z : Str)
  | refused
  | noblock
  | waits (z : Str)
  | norecord (z : Str)
  | badword (v : V)
  | badmode (v : V)
def errE (a : Ad) (e : EK) (H : Hp) (E : XK) : Prop := match e with
  | .missing m => errQ a.Missing ef_Missing [.str m] H E
  | .present m => errQ a.Present ef_Present [.str m] H E
  | .doomed z => errQ a.Doomed ef_Doomed [.str z] H E
  | .refused => errQ a.Refused ef_Refused [] H E
  | .noblock => errQ a.NoBlock ef_NoBlock [] H E
  | .waits z => errQ a.Waits ef_Waits [.str z] H E
  | .norecord z => errQ a.NoRecord ef_NoRecord [.str z] H E
  | .badword v => errQ a.BadWord ef_BadWord [v] H E
  | .badmode v => errQ a.BadMode ef_BadMode [v] H E
/-- what a method leaves: the state, and an error or None -/
def outE (a : Ad) (r : Db × Option EK) (H : Hp) (L : Lay) (Q : VK) (E : XK) : Prop := ∀ H' L', DB a H' L' r.1 → Fr H H' L L' → match r.2 with
  | none => Q .non H'
  | some e => errE a e H' E
theorem outE.fr {a : Ad} {r : Db × Option EK} {H H1 : Hp} {L L1 : Lay} {Q : VK} {E : XK} (k : outE a r H L Q E) (f : Fr H H1 L L1) : outE a r H1 L1 Q E := fun H' L' d f' => k H' L' d (f.trans f')
def plainD (D : Db) (z : Str) : Db := { D with entered := z :: D.entered }
theorem outE.putE {a : Ad} {H : Hp} {L : Lay} {D : Db} {z : Str} {Q : VK} {E : XK} (hD : DB a H L D) (k : outE a (plainD D z, none) H L Q E) : Q .non (upd H L.e (.lst (rv V.str D.entered ++ [.str z]))) := by
  have := k _ _ (hD.setE (z :: D.entered)) (Fr.set DbAt.mutE)
  rw [rv_cons] at this
  exact this
def beginD (D : Db) : Db := { D with stack := some ⟨D.opened, [none]⟩ :: D.stack, opened := D.opened + 1, entered := "base" :: D.entered }
def spBegin (a : Ad) : Sp := fun vs H Q E => ∃ L D, vs = [.ref L.db] ∧ DB a H L D ∧ Sm D ∧ outE a (beginD D, none) H L Q E
theorem ts_len {a : Ad} {H : Hp} {L : Lay} {D : Db} (h : DB a H L D) (m : Sm D) : (rv tV L.ts).length < sizeLine := by
  rw [rv_len, h.txs.len, sizeLine_eq]
  have := m.s
  omega
theorem es_len {D : Db} (m : Sm D) : (rv V.str D.entered).length < sizeLine := by
  rw [rv_len, sizeLine_eq]
  have := m.e
  omega
theorem ok_Database_begin (T : Txt K mg a d) : FnOk P w K mg base CX0 3 a.Database_begin d.Database_begin ["self"] (spBegin a) := by
  have G_TransactionU_initU : FnOk P w K mg base CX0 1 a.TransactionU_initU d.TransactionU_initU ["self", "number"] (spTxI a) := ok_TransactionU_initU T
  refine T.Database_begin.ok sc_Database_begin (fun vs H Q E h => ?_) (fun cdv A outer s H vs Q E hr h => ?_)
  · obtain ⟨L, D, rfl, _⟩ := h
    rfl
  · obtain ⟨L, D, rfl, hD, hm, k⟩ := h
    have c1 := T.k_Database
    have n1 := T.na_Database_stack
    have n2 := T.na_Database_entered
    have n3 := T.na_Database_opened
    have h1 := hD.db
    have h2 := hD.s
    have h3 := hD.e
    have l1 := ts_len hD hm
    have l2 := es_len hm
    refine ⟨_, (pss_cons (ps_expr (pe_bm PySem.F.plainAttrs_list PySem.F.slot_list_append PySem.F.type_list_append mt_append (pe_fld (pv 0) rfl) (pa_cons (pe_make T.mk_Transaction G_TransactionU_initU (hr.mono (by decide)) (by rfl) T.g_Transaction T.b_TransactionU_initU .nil pass0 (pa_cons (pe_fld (pv 0) rfl) pa_nil)) pa_nil)))
  (pss_cons (ps_fldaug (pv 0) pe_int in_add)
  (pss_one (ps_expr (pe_bm PySem.F.plainAttrs_list PySem.F.slot_list_append PySem.F.type_list_append mt_append (pe_fld (pv 0) rfl) (pa_cons pe_str pa_nil)))))), ?_⟩
    dsimp only [cxOf]
    walk_at "rd"
    intro x dx hx hdx nxd
    refine ⟨x, dx, D.opened, rfl, upd_same, fun q hq nq => ⟨rfl, ?_⟩⟩
    obtain ⟨_, hq1⟩ := none_upd hq
    obtain ⟨nqd, hq2⟩ := none_upd hq1
    generalize hH1 : upd (upd (upd (upd (upd H dx (HO.own x)) x (HO.ins a.Transaction dx [])) x (HO.ins a.Transaction dx [("number", V.int D.opened)])) q (HO.lst [V.non])) x (HO.ins a.Transaction dx (txF D.opened q)) = H1
    have k1 : Same H H1 := fun b u e => by
      rw [← hH1]
      exact upd_oth (ne_of_none e hx) (upd_oth (ne_of_none e hq2) (upd_oth (ne_of_none e hx) (upd_oth (ne_of_none e hx) (upd_oth (ne_of_none e hdx) e))))
    have hx1 : H1 x = some (.ins a.Transaction dx (txF D.opened q)) := by rw [← hH1]; exact upd_same
    have hq3 : H1 q = some (.lst (rv oV [none])) := by rw [← hH1]; exact upd_oth nq upd_same
    have hD1 : DB a H1 L D := hD.keep fun b u _ e => k1 b u e
    have hD2 := hD1.pushT (t := ⟨x, dx, q⟩) hx1 hq3 (by simp) (hD.fresh hq2 )
    have f2 : Fr H _ L _ := Fr.pushT (t := ⟨x, dx, q⟩) (o := .lst (rv tV (some ⟨x, dx, q⟩ :: L.ts))) (.of_same k1) hq2
    rw [← show rv tV L.ts ++ [V.ref x] = rv tV (some ⟨x, dx, q⟩ :: L.ts) from (rv_cons (f := tV) (x := some ⟨x, dx, q⟩)).symm] at hD2 f2
    have g1 := hD1.s
    have g2 : upd H1 L.s (HO.lst (rv tV L.ts ++ [V.ref x])) L.db = some (.ins a.Database L.dx (dbF L.r L.s L.e D.floor D.opened)) := hD2.db
    have g3 : upd H1 L.s (HO.lst (rv tV L.ts ++ [V.ref x])) L.e = some (.lst (rv V.str D.entered)) := hD2.e
    have g4 : L.e ≠ L.db := Ne.symm (ins_ne h1 h3)
    walk_at "rd"
    have hD4 := (hD2.setD D.floor (D.opened + 1)).setE ("base" :: D.entered)
    have f4 := (f2.trans (Fr.set (o := .ins a.Database L.dx (dbF L.r L.s L.e D.floor (D.opened + 1))) DbAt.mutD)).trans (Fr.set (o := .lst (rv V.str ("base" :: D.entered))) DbAt.mutE)
    rw [rv_cons] at hD4 f4
    exact k _ _ hD4 f4
/-! ### enter -/
def aloneD (D : Db) (m : Str) : Db × Option EK :=
  if decide (V.str m = V.str "must") = true then (D, some (.missing m)) else if inV (.str m) [.str "either", .str "never", .str "outside"] = true then (plainD D "plain", none) else (beginD D, none)
def spAlone (a : Ad) : Sp := fun vs H Q E => ∃ L D m, vs = [.ref L.db, .str m] ∧ DB a H L D ∧ Sm D ∧ outE a (aloneD D m) H L Q E
theorem ok_Database_enter_alone (T : Txt K mg a d) : FnOk P w K mg base (L2.CX P w) 4 a.Database_enter_alone d.Database_enter_alone ["self", "mode"] (spAlone a) := by
  have G_Database_begin : FnOk P w K mg base CX0 3 a.Database_begin d.Database_begin ["self"] (spBegin a) := ok_Database_begin T
  refine T.Database_enter_alone.okX sc_Database_enter_alone (fun vs H Q E h => ?_) (fun cdv A outer s H vs Q E hr h => ?_)
  · obtain ⟨L, D, m, rfl, _⟩ := h
    rfl
  · obtain ⟨L, D, m, rfl, hD, hm, k⟩ := h
    have c1 := T.k_Database
    have n2 := T.na_Database_entered
    have h1 := hD.db
    have h3 := hD.e
    have l2 := es_len hm
    obtain ⟨u1, k1⟩ := T.c_Mode_MUST
    obtain ⟨u2, k2⟩ := T.c_Mode_EITHER
    obtain ⟨u3, k3⟩ := T.c_Mode_NEVER
    obtain ⟨u4, k4⟩ := T.c_Mode_OUTSIDE
    have r1 := T.r_Mode
    refine ⟨_, (pss_cons (ps_if (pt_cmpR op_eq (pv 1) (ClX.pe_cval (pe_glob (v := .ref a.Mode) (by rfl) T.g_Mode rfl)) (nomark _)) (pss_one (ps_raise rfl (takes_of rfl rfl rfl rfl) (pmk_err T.e_Missing T.g_Missing T.n_super hr (pa_cons (pv 1) pa_nil)))) pss_nil)
  (pss_one (ps_if (pt_cmpR op_in_seq (pv 1) (pe_tup (pa_cons (ClX.pe_cval (pe_glob (v := .ref a.Mode) (by rfl) T.g_Mode rfl)) (pa_cons (ClX.pe_cval (pe_glob (v := .ref a.Mode) (by rfl) T.g_Mode rfl)) (pa_cons (ClX.pe_cval (pe_glob (v := .ref a.Mode) (by rfl) T.g_Mode rfl)) pa_nil)))) (by rfl)) (pss_one (ps_expr (pe_bm PySem.F.plainAttrs_list PySem.F.slot_list_append PySem.F.type_list_append mt_append (pe_fld (pv 0) rfl) (pa_cons pe_str pa_nil)))) (pss_one (ps_expr (pe_meth0 (pv 0) T.k_Database T.m_Database_begin G_Database_begin (hr.mono (by decide)) T.b_Database_begin .nil pass0)))))), ?_⟩
    dsimp only [cxOf]
    walk_at "rd"
    unfold aloneD at k
    refine ite2 (fun c0 => ?_) (fun c0 => ?_)
    · rw [if_pos c0] at k
      walk_at "rd"
      exact k H L hD Fr.refl
    · rw [if_neg c0] at k
      walk_at "rd"
      intro p hp
      have hD1 : DB a _ L D := hD.new (o := .tup [.str "either", .str "never", .str "outside"]) hp
      have f1 : Fr H _ L L := Fr.refl.new (o := .tup [.str "either", .str "never", .str "outside"]) hp
      have h1 := hD1.db
      have h3 := hD1.e
      have hp1 := upd_same (H := H) (a := p) (o := .tup [.str "either", .str "never", .str "outside"])
      generalize upd H p (.tup [.str "either", .str "never", .str "outside"]) = H1 at hD1 f1 h1 h3 hp1 ⊢
      walk_at "rd"
      refine ite2 (fun c1 => ?_) (fun c1 => ?_)
      · rw [if_pos (show inV (V.str m) [V.str "either", V.str "never", V.str "outside"] = true from c1)] at k
        walk_at "rd"
        exact (k.fr f1).putE hD1
      · rw [if_neg (show ¬ inV (V.str m) [V.str "either", V.str "never", V.str "outside"] = true from c1)] at k
        walk_at "rd"
        exact ⟨L, D, rfl, hD1, hm, k.fr f1⟩
def lvlD (D : Db) (m : Str) (n : Int) (y : Option Str) (rs : List (Option Str)) (st : List (Option Tx)) : Db × Option EK :=
  if inV (.str m) [.str "never", .str "alone"] = true then (D, some (.present m)) else
  if decide (V.str m = V.str "inner") = true then (match y with
    | some z => (D, some (.doomed z))
    | none => (plainD { D with stack := some ⟨n, none :: y :: rs⟩ :: st } "level", none)) else
  if decide (V.str m = V.str "apart") = true then (beginD D, none) else
  if decide (V.str m = V.str "outside") = true then (plainD { D with stack := none :: D.stack } "outside", none) else (plainD D "joined", none)
def spInside (a : Ad) : Sp := fun vs H Q E => ∃ L D m t ts n y rs st, vs = [.ref L.db, .str m, .ref t.t] ∧ DB a H L D ∧ Sm D ∧ L.ts = some t :: ts ∧ D.stack = some ⟨n, y :: rs⟩ :: st ∧ outE a (lvlD D m n y rs st) H L Q E
theorem ok_Database_enter_inside (T : Txt K mg a d) : FnOk P w K mg base (L2.CX P w) 4 a.Database_enter_inside d.Database_enter_inside ["self", "mode", "present"] (spInside a) := by
  have G_Database_begin : FnOk P w K mg base CX0 3 a.Database_begin d.Database_begin ["self"] (spBegin a) := ok_Database_begin T
  refine T.Database_enter_inside.okX sc_Database_enter_inside (fun vs H Q E h => ?_) (fun cdv A outer s H vs Q E hr h => ?_)
  · obtain ⟨L, D, m, t, ts, n, y, rs, st, rfl, _⟩ := h
    rfl
  · obtain ⟨L, D, m, t, ts, n, y, rs, st, rfl, hD0, hm, et, es, k⟩ := h
    have c1 := T.k_Database
    have c2 := T.k_Transaction
    have n1 := T.na_Database_stack
    have n2 := T.na_Database_entered
    have n3 := T.na_Transaction_reasons
    obtain ⟨u1, k1⟩ := T.c_Mode_NEVER
    obtain ⟨u2, k2⟩ := T.c_Mode_ALONE
    obtain ⟨u3, k3⟩ := T.c_Mode_INNER
    obtain ⟨u4, k4⟩ := T.c_Mode_APART
    obtain ⟨u5, k5⟩ := T.c_Mode_OUTSIDE
    have r1 := T.r_Mode
    refine ⟨_, (pss_cons (ps_if (pt_cmpR op_in_seq (pv 1) (pe_tup (pa_cons (ClX.pe_cval (pe_glob (v := .ref a.Mode) (by rfl) T.g_Mode rfl)) (pa_cons (ClX.pe_cval (pe_glob (v := .ref a.Mode) (by rfl) T.g_Mode rfl)) pa_nil))) (by rfl)) (pss_one (ps_raise rfl (takes_of rfl rfl rfl rfl) (pmk_err T.e_Present T.g_Present T.n_super hr (pa_cons (pv 1) pa_nil)))) pss_nil)
  (pss_one (ps_if (pt_cmpR op_eq (pv 1) (ClX.pe_cval (pe_glob (v := .ref a.Mode) (by rfl) T.g_Mode rfl)) (nomark _)) (pss_cons (ps_if (pt_cmpR op_notN (pe_ix ix_list (pe_fld (pv 2) rfl) (pe_un un_neg pe_int) (fun _ _ => rfl)) pe_non (nomark _)) (pss_one (ps_raise rfl (takes_of rfl rfl rfl rfl) (pmk_err T.e_Doomed T.g_Doomed T.n_super hr (pa_cons (pe_ix ix_list (pe_fld (pv 2) rfl) (pe_un un_neg pe_int) (fun _ _ => rfl)) pa_nil)))) pss_nil)
  (pss_cons (ps_expr (pe_bm PySem.F.plainAttrs_list PySem.F.slot_list_append PySem.F.type_list_append mt_append (pe_fld (pv 2) rfl) (pa_cons pe_non pa_nil)))
  (pss_one (ps_expr (pe_bm PySem.F.plainAttrs_list PySem.F.slot_list_append PySem.F.type_list_append mt_append (pe_fld (pv 0) rfl) (pa_cons pe_str pa_nil)))))) (pss_one (ps_if (pt_cmpR op_eq (pv 1) (ClX.pe_cval (pe_glob (v := .ref a.Mode) (by rfl) T.g_Mode rfl)) (nomark _)) (pss_one (ps_expr (pe_meth0 (pv 0) T.k_Database T.m_Database_begin G_Database_begin (hr.mono (by decide)) T.b_Database_begin .nil pass0))) (pss_one (ps_if (pt_cmpR op_eq (pv 1) (ClX.pe_cval (pe_glob (v := .ref a.Mode) (by rfl) T.g_Mode rfl)) (nomark _)) (pss_cons (ps_expr (pe_bm PySem.F.plainAttrs_list PySem.F.slot_list_append PySem.F.type_list_append mt_append (pe_fld (pv 0) rfl) (pa_cons pe_non pa_nil)))
  (pss_one (ps_expr (pe_bm PySem.F.plainAttrs_list PySem.F.slot_list_append PySem.F.type_list_append mt_append (pe_fld (pv 0) rfl) (pa_cons pe_str pa_nil))))) (pss_one (ps_expr (pe_bm PySem.F.plainAttrs_list PySem.F.slot_list_append PySem.F.type_list_append mt_append (pe_fld (pv 0) rfl) (pa_cons pe_str pa_nil))))))))))), ?_⟩
    dsimp only [cxOf]
    walk_at "rd"
    intro p hp
    have hD : DB a _ L D := hD0.new (o := .tup [.str "never", .str "alone"]) hp
    have f1 : Fr H _ L L := Fr.refl.new (o := .tup [.str "never", .str "alone"]) hp
    have hp1 := upd_same (H := H) (a := p) (o := .tup [.str "never", .str "alone"])
    generalize upd H p (.tup [.str "never", .str "alone"]) = H1 at hD f1 hp1 ⊢
    replace k := k.fr f1
    have mt : some t ∈ L.ts := by rw [et]; exact List.mem_cons_self
    have h1 := hD.db
    have h2 := hD.s
    have h3 := hD.e
    have hx := hD.txs
    rw [et, es] at hx
    obtain ⟨h4, h5, h6⟩ : TxAt a.Transaction H1 (some t) (some ⟨n, y :: rs⟩) := by cases hx; assumption
    have e1 := rv_at (f := oV) (x := y) (l := rs)
    have l2 := es_len hm
    have l1 := ts_len hD hm
    unfold lvlD at k
    walk_at "rd"
    refine ite2 (fun b1 => ?_) (fun b1 => ?_)
    · rw [if_pos (show inV (V.str m) [V.str "never", V.str "alone"] = true from b1)] at k
      walk_at "rd"
      exact k H1 L hD Fr.refl
    rw [if_neg (show ¬ inV (V.str m) [V.str "never", V.str "alone"] = true from b1)] at k
    walk_at "rd"
    refine ite2 (fun b2 => ?_) (fun b2 => ?_)
    · rw [if_pos b2] at k
      have hd : ∀ z, H1 t.q ≠ some (.ins a.Database L.dx z) := fun z e => by rw [h5] at e; cases e
      walk_at "rd"
      cases y with
      | some z =>
        refine iteT ?_
        walk_at "rd"
        exact k H1 L hD Fr.refl
      | none =>
        refine iteF ?_
        have hD2 := hD.setQ (rs := none :: none :: rs) et es (by simp)
        have f2 := Fr.set (H := H1) (o := .lst (rv oV (none :: none :: rs))) (DbAt.mutQ mt)
        rw [show rv oV (none :: none :: rs) = rv oV (none :: rs) ++ [V.non] from rv_cons] at hD2 f2
        have g1 := hD2.db
        have g2 := hD2.e
        dsimp only at g1 g2
        have l3 : (rv oV (none :: rs)).length < sizeLine := by
          rw [rv_len, sizeLine_eq]
          have := hm.r ⟨n, none :: rs⟩ (by rw [es]; exact List.mem_cons_self)
          dsimp only at this
          omega
        walk_at "rd"
        have z := outE.putE hD2 (k.fr f2)
        exact z
    rw [if_neg b2] at k
    walk_at "rd"
    refine ite2 (fun b3 => ?_) (fun b3 => ?_)
    · rw [if_pos b3] at k
      walk_at "rd"
      exact ⟨L, D, rfl, hD, hm, k⟩
    rw [if_neg b3] at k
    walk_at "rd"
    refine ite2 (fun b4 => ?_) (fun b4 => ?_)
    · rw [if_pos b4] at k
      have hD2 := hD.pushN
      have f2 := Fr.pushN (H := H1) (L := L) (o := .lst (rv tV (none :: L.ts)))
      rw [show rv tV (none :: L.ts) = rv tV L.ts ++ [V.non] from rv_cons] at hD2 f2
      have g1 := hD2.db
      have g2 := hD2.e
      dsimp only at g1 g2
      walk_at "rd"
      have z := outE.putE hD2 (k.fr f2)
      exact z
    rw [if_neg b4] at k
    walk_at "rd"
    exact k.putE hD
def enterD (D : Db) (m : Str) : Db × Option EK := match D.stack with
  | none :: _ => aloneD D m
  | some ⟨n, y :: rs⟩ :: st => lvlD D m n y rs st
  | _ => (D, none)
def enterV (D : Db) (v : V) : Db × Option EK := if modeB v = true then (match v with
  | .str m => enterD D m
  | _ => (D, none)) else (D, some (.badmode v))
def spEnter (a : Ad) : Sp := fun vs H Q E => ∃ L D v, vs = [.ref L.db, v] ∧ Thing H v ∧ DB a H L D ∧ Sm D ∧ outE a (enterV D v) H L Q E
theorem ok_Database_enter (T : Txt K mg a d) : FnOk P w K mg base (L2.CX P w) 5 a.Database_enter d.Database_enter ["self", "mode"] (spEnter a) := by
  have G_Mode_is_mode : FnOk P w K mg base CX0 1 a.Mode_is_mode d.Mode_is_mode ["thing"] spIsMode := ok_Mode_is_mode T
  have G_Database_enter_alone : FnOk P w K mg base (L2.CX P w) 4 a.Database_enter_alone d.Database_enter_alone ["self", "mode"] (spAlone a) := ok_Database_enter_alone T
  have G_Database_enter_inside : FnOk P w K mg base (L2.CX P w) 4 a.Database_enter_inside d.Database_enter_inside ["self", "mode", "present"] (spInside a) := ok_Database_enter_inside T
  refine T.Database_enter.okX sc_Database_enter (fun vs H Q E h => ?_) (fun cdv A outer s H vs Q E hr h => ?_)
  · obtain ⟨L, D, v, rfl, _⟩ := h
    rfl
  · obtain ⟨L, D, v, rfl, tm, hD, hm, k⟩ := h
    have c1 := T.k_Database
    have n1 := T.na_Database_stack
    have h1 := hD.db
    have h2 := hD.s
    refine ⟨_, (pss_cons (ps_if (pt_not (pt_val (pe_smeth (pe_glob (v := .ref a.Mode) (by rfl) T.g_Mode rfl) T.r_Mode T.s_Mode_is_mode G_Mode_is_mode (hr.mono (by decide)) T.Mode_is_mode.kp T.b_Mode_is_mode .nil pass0 (pa_cons (pv 1) pa_nil)))) (pss_one (ps_raise rfl (takes_of rfl rfl rfl rfl) (pmk_err T.e_BadMode T.g_BadMode T.n_super hr (pa_cons (pv 1) pa_nil)))) pss_nil)
  (pss_one (ps_if (pt_cmpR op_isN (pe_ix ix_list (pe_fld (pv 0) rfl) (pe_un un_neg pe_int) (fun _ _ => rfl)) pe_non (nomark _)) (pss_one (ps_expr (pe_meth (pv 0) T.k_Database T.m_Database_enter_alone G_Database_enter_alone (hr.mono (by decide)) T.b_Database_enter_alone .nil (passes_call (takes_of rfl rfl rfl rfl) (fun _ _ _ _ h => h)) (pa_cons (pv 1) pa_nil)))) (pss_one (ps_expr (pe_meth (pv 0) T.k_Database T.m_Database_enter_inside G_Database_enter_inside (hr.mono (by decide)) T.b_Database_enter_inside .nil (passes_call (takes_of rfl rfl rfl rfl) (fun _ _ _ _ h => h)) (pa_cons (pv 1) (pa_cons (pe_ix ix_list (pe_fld (pv 0) rfl) (pe_un un_neg pe_int) (fun _ _ => rfl)) pa_nil)))))))), ?_⟩
    dsimp only [cxOf]
    walk_at "rd"
    unfold enterV at k
    cases bm : modeB v with
    | false =>
      rw [bm] at k
      refine iteT ?_
      walk_at "rd"
      exact k H L hD Fr.refl
    | true =>
      rw [bm] at k
      refine iteF ?_
      obtain ⟨m, rfl⟩ : ∃ m, v = .str m := by
        cases v <;> first | exact ⟨_, rfl⟩ | cases bm
      dsimp only [if_true] at k
      rw [if_pos rfl] at k
      unfold enterD at k
      rcases hD.top with ⟨ts, st, et, es⟩ | ⟨t, ts, x, st, y, rs, et, es, ex, h4, h5⟩
      · rw [es] at k
        rw [et] at h2
        have e1 := rv_at (f := tV) (x := none) (l := ts)
        walk_at "rd"
        exact ⟨L, D, m, rfl, hD, hm, k⟩
      · obtain ⟨n, rs0⟩ := x
        dsimp only at ex
        subst ex
        rw [es] at k
        rw [et] at h2
        have e1 := rv_at (f := tV) (x := some t) (l := ts)
        walk_at "rd"
        exact ⟨L, D, m, t, ts, n, y, rs, st, rfl, hD, hm, et, es, k⟩
theorem enterV_mode {D : Db} {m : Str} (h : m ∈ modesS) : enterV D (.str m) = enterD D m := by
  unfold enterV
  rw [if_pos (mode_isB h)]
/-! ### doom -/
theorem bd_doom (T : Txt K mg a d) : Binds K d.Database_doom ["self", "first"] [] := by
  obtain ⟨ds, h1, h2⟩ := T.Database_doom.binds1 (ps := ["self", "first"]) 2 1 (by simp) rfl fun T kV doc pm an cdv ct us its hu hi => match us, hu, its, hi with | [_, _], _, [_], _ => ⟨_, rfl, rfl⟩
  cases h1
  exact h2
def doomD (D : Db) (z : Str) : Db := match D.stack with
  | some ⟨n, none :: rs⟩ :: st => { D with stack := some ⟨n, some z :: rs⟩ :: st }
  | _ => D
def doomV (D : Db) (v : V) : Db × Option EK := if wordB v = true then (match v with
  | .str z => (doomD D z, none)
  | _ => (D, none)) else (D, some (.badword v))
theorem IsWord.asc {w : Str} (h : IsWord w) : asc w := fun c hc => by
  have := h.al c hc
  omega
theorem word_thing {H : Hp} {w : Str} (h : IsWord w) : Thing H (.str w) := .str w (by rw [← len_toList]; have := h.hi; omega) h.asc
theorem doomV_word {D : Db} {z : Str} (h : IsWord z) : doomV D (.str z) = (doomD D z, none) := by
  unfold doomV
  rw [if_pos (show wordB (.str z) = true from h.ok)]
def spDoom (a : Ad) : Sp := fun vs H Q E => ∃ L D v, vs = [.ref L.db, v] ∧ Thing H v ∧ DB a H L D ∧ outE a (doomV D v) H L Q E
theorem ok_Database_doom (T : Txt K mg a d) : FnOk P w K mg base (L2.CX P w) 2 a.Database_doom d.Database_doom ["self", "first"] (spDoom a) := by
  have G_is_word : FnOk P w K mg base CX0 1 a.is_word d.is_word ["thing"] spIsWord := ok_is_word T
  refine T.Database_doom.ok sc_Database_doom (fun vs H Q E h => ?_) (fun cdv A outer s H vs Q E hr h => ?_)
  · obtain ⟨L, D, v, rfl, _⟩ := h
    rfl
  · obtain ⟨L, D, v, rfl, tz, hD, k⟩ := h
    have c1 := T.k_Database
    have c2 := T.k_Transaction
    have n1 := T.na_Database_stack
    have n3 := T.na_Transaction_reasons
    have h1 := hD.db
    have h2 := hD.s
    refine ⟨_, (pss_cons (ps_if (pt_not (pt_val (pe_call G_is_word (hr.mono (by decide)) (by rfl) T.g_is_word T.is_word.kp T.b_is_word .nil pass0 (pa_cons (pv 1) pa_nil)))) (pss_one (ps_raise rfl (takes_of rfl rfl rfl rfl) (pmk_err T.e_BadWord T.g_BadWord T.n_super hr (pa_cons (pv 1) pa_nil)))) pss_nil)
  (pss_cons (ps_set (i := 2) sc_Database_doom.nd rfl (Or.inl rfl) (pe_ix ix_list (pe_fld (pv 0) rfl) (pe_un un_neg pe_int) (fun _ _ => rfl)))
  (pss_one (ps_if (PW.pt (pw_and (pt_cmpR op_notN (pv 2) pe_non (nomark _)) (pw_and1 (pt_cmpR op_isN (pe_ix ix_list (pe_fld (pv 2) rfl) (pe_un un_neg pe_int) (fun _ _ => rfl)) pe_non (nomark _))))) (pss_one (ps_asg (pv 1) (pg_sub (pe_fld (pv 2) rfl) (pe_un un_neg pe_int) set_list))) pss_nil)))), ?_⟩
    dsimp only [cxOf]
    walk_at "rd"
    unfold doomV at k
    cases bz : wordB v with
    | false =>
      rw [bz] at k
      refine iteT ?_
      walk_at "rd"
      exact k H L hD Fr.refl
    | true =>
      rw [bz, if_pos rfl] at k
      refine iteF ?_
      obtain ⟨z, rfl⟩ : ∃ z, v = .str z := by
        cases v <;> first | exact ⟨_, rfl⟩ | cases bz
      unfold doomD at k
      dsimp only at k
      rcases hD.top with ⟨ts, st, et, es⟩ | ⟨t, ts, x, st, y, rs, et, es, ex, h4, h5⟩
      · rw [es] at k
        rw [et] at h2
        have e1 := rv_at (f := tV) (x := none) (l := ts)
        walk_at "rd"
        exact k H L hD Fr.refl
      · obtain ⟨n, rs0⟩ := x
        dsimp only at ex
        subst ex
        rw [es] at k
        rw [et] at h2
        have e1 := rv_at (f := tV) (x := some t) (l := ts)
        have e2 := rv_at (f := oV) (x := y) (l := rs)
        have e3 := rv_ix (f := oV) (x := y) (l := rs)
        have mt : some t ∈ L.ts := by rw [et]; exact List.mem_cons_self
        cases y with
        | some y =>
          walk_at "rd"
          exact k H L hD Fr.refl
        | none =>
          walk_at "rd"
          have hD2 := hD.setQ (rs := some z :: rs) et es (by simp)
          have f2 := Fr.set (H := H) (o := .lst (rv oV (some z :: rs))) (DbAt.mutQ mt)
          have z2 := k _ _ hD2 f2
          rw [← rv_set (x := none)] at z2
          exact z2
/-! ### the end of a level, of a transaction -/
def endE (err y : Option Str) (c : Bool) : Option EK := match err, y, c with
  | none, some z, _ => some (.doomed z)
  | none, none, false => some .refused
  | _, _, _ => none
def endLRow (n top : Int) (ok : Bool) (x : Row) : Row := if x.fate = "open" ∧ x.holder = n ∧ x.level = top then (if ok = true then { x with level := top - 1 } else { x with fate := "undone" }) else x
def endTRow (n : Int) (fate : Str) (x : Row) : Row := if x.fate = "open" ∧ x.holder = n then { x with fate := fate } else x
theorem cur_at {α : Type} {f : α → α} {l : List α} {i : Nat} (hi : i ≤ l.length) : ((l.take i).map f ++ l.drop i)[i]? = l[i]? := by
  rw [List.getElem?_append_right (by rw [List.length_map, List.length_take]; omega), List.length_map, List.length_take, Nat.min_eq_left hi, Nat.sub_self, List.getElem?_drop]; rfl
theorem cur_step {α : Type} {f : α → α} {l : List α} {i : Nat} {x : α} (h : l[i]? = some x) : ((l.take i).map f ++ l.drop i).set i (f x) = (l.take (i + 1)).map f ++ l.drop (i + 1) := by
  have hi : i < l.length := (List.getElem?_eq_some_iff.mp h).1
  have e1 : ((l.take i).map f).length = i := by rw [List.length_map, List.length_take]; omega
  rw [List.set_append_right _ _ (by omega), e1, Nat.sub_self, List.take_add_one, h, List.map_append]
  have e2 : l.drop i = x :: l.drop (i + 1) := by
    rw [List.drop_eq_getElem_cons hi]
    congr 1
    exact (List.getElem?_eq_some_iff.mp h).2
  rw [e2]
  simp
theorem cur_same {α : Type} {f : α → α} {l : List α} {i : Nat} {x : α} (h : l[i]? = some x) (e : f x = x) : (l.take i).map f ++ l.drop i = (l.take (i + 1)).map f ++ l.drop (i + 1) := by
  rw [← cur_step h, e]
  have hi : i < l.length := (List.getElem?_eq_some_iff.mp h).1
  have := cur_at (f := f) (Nat.le_of_lt hi)
  rw [h] at this
  obtain ⟨h1, h2⟩ := List.getElem?_eq_some_iff.mp this
  rw [← h2, List.set_getElem_self]
theorem map_ref {ws : List (Addr × Addr)} {i : Nat} {v : V} (h : (ws.map fun w => V.ref w.1)[i]? = some v) : ∃ w, ws[i]? = some w ∧ v = .ref w.1 := by
  rw [List.getElem?_map] at h
  cases e : ws[i]? with
  | none => rw [e] at h; cases h
  | some w =>
    rw [e] at h
    cases h
    exact ⟨w, rfl, rfl⟩
def endLD (D : Db) (err : Option Str) : Db × Option EK := match D.stack with
  | some ⟨n, y :: rs⟩ :: st => ({ D with stack := some ⟨n, rs⟩ :: st, rows := D.rows.map (endLRow n rs.length (err.isNone && y.isNone)) }, endE err y true)
  | _ => (D, none)
def spEndL (a : Ad) : Sp := fun vs H Q E => ∃ L D err n y z rs st, vs = [.ref L.db, oV err] ∧ DB a H L D ∧ Sm D ∧ D.stack = some ⟨n, y :: z :: rs⟩ :: st ∧ outE a (endLD D err) H L Q E
theorem ok_Database_end_level (T : Txt K mg a d) : FnOk P w K mg base (L2.CX P w) 1 a.Database_end_level d.Database_end_level ["self", "error"] (spEndL a) := by
  refine T.Database_end_level.okX sc_Database_end_level (fun vs H Q E h => ?_) (fun cdv A outer s H vs Q E hr h => ?_)
  · obtain ⟨L, D, err, n, y, z, rs, st, rfl, _⟩ := h
    rfl
  · obtain ⟨L, D, err, n, y, z, rs, st, rfl, hD, hm, es, k⟩ := h
    have c1 := T.k_Database
    have c2 := T.k_Transaction
    have c3 := T.k_Write
    have n1 := T.na_Database_stack
    have n2 := T.na_Database_rows
    have n3 := T.na_Transaction_reasons
    have n4 := T.na_Transaction_number
    have n5 := T.na_Write_fate
    have n6 := T.na_Write_holder
    have n7 := T.na_Write_level
    have h1 := hD.db
    have h2 := hD.s
    unfold endLD at k
    rw [es] at k
    dsimp only at k
    rcases hD.top with ⟨ts, st', et, es'⟩ | ⟨t, ts, x, st', y', rs', et, es', ex, h4, h5⟩
    · rw [es] at es'
      cases es'
    · rw [es] at es'
      cases es'
      cases ex
      rw [et] at h2
      have e1 := rv_at (f := tV) (x := some t) (l := ts)
      have e2 := rv_pop (f := oV) (x := y) (l := z :: rs)
      have mt : some t ∈ L.ts := by rw [et]; exact List.mem_cons_self
      have hD2 := hD.setQ (rs := z :: rs) et es (by simp)
      have f2 := Fr.set (H := H) (o := .lst (rv oV (z :: rs))) (DbAt.mutQ mt)
      obtain ⟨g3, g4, _⟩ : TxAt a.Transaction _ (some t) (some ⟨n, z :: rs⟩) := by
        have hx := hD2.txs
        rw [et] at hx
        cases hx
        assumption
      have g1 := hD2.db
      dsimp only at g1 g3 g4
      rw [← rv_drop (f := oV) (x := y) (l := z :: rs)] at hD2 f2 g1 g3 g4
      replace k := k.fr f2
      refine ⟨_, (pss_cons (ps_set (i := 2) sc_Database_end_level.nd rfl (Or.inl rfl) (pe_ix ix_list (pe_fld (pv 0) rfl) (pe_un un_neg pe_int) (fun _ _ => rfl)))
  (pss_cons (ps_set (i := 3) sc_Database_end_level.nd rfl (Or.inl rfl) (pe_bm0 PySem.F.plainAttrs_list PySem.F.slot_list_pop PySem.F.type_list_pop mt_pop (pe_fld (pv 2) rfl)))
  (pss_cons (ps_set (i := 4) sc_Database_end_level.nd rfl (Or.inl rfl) (pe_callB call_len_seq (by rfl) T.n_len PySem.boot_len (pa_cons (pe_fld (pv 2) rfl) pa_nil)))
  (pss_cons (ps_for (passes_of rfl) rfl (pi_list (pe_fld (pv 0) rfl)) (pg_name (i := 5) sc_Database_end_level.nd rfl (Or.inl rfl))
  (pss_one (ps_if (PW.pt (pw_and (pt_cmpR op_eq (pe_fld (pv 5) rfl) pe_str (nomark _)) (pw_and (pt_cmpR op_eq (pe_fld (pv 5) rfl) (pe_fld (pv 2) rfl) (nomark _)) (pw_and1 (pt_cmpR op_eq (pe_fld (pv 5) rfl) (pv 4) (nomark _)))))) (pss_one (ps_if (PW.pt (pw_and (pt_cmpR op_isN (pv 1) pe_non (nomark _)) (pw_and1 (pt_cmpR op_isN (pv 3) pe_non (nomark _))))) (pss_one (ps_fld (pv 5) (pe_op op_sub (pv 4) pe_int) rfl)) (pss_one (ps_fld (pv 5) pe_str rfl)))) pss_nil)))
  (pss_one (ps_if (PW.pt (pw_and (pt_cmpR op_isN (pv 1) pe_non (nomark _)) (pw_and1 (pt_cmpR op_notN (pv 3) pe_non (nomark _))))) (pss_one (ps_raise rfl (takes_of rfl rfl rfl rfl) (pmk_err T.e_Doomed T.g_Doomed T.n_super hr (pa_cons (pv 3) pa_nil)))) pss_nil)))))), ?_⟩
      dsimp only [cxOf]
      walk_at "rd"
      generalize upd H t.q (.lst (rv oV (y :: z :: rs)).dropLast) = H1 at hD2 f2 g1 g3 g4 k ⊢
      have ltop : (((rv oV (y :: z :: rs)).dropLast.length : Nat) : Int) = ((z :: rs).length : Int) := by rw [rv_drop, rv_len]
      rw [ltop]
      refine ⟨⟨_, SqL.of hD2.r⟩, ?_⟩
      refine for_list (xs := L.ws.map fun w => V.ref w.1) (fun i σ H' => ∃ v5, DB a H' L { D with stack := some ⟨n, z :: rs⟩ :: st, rows := (D.rows.take i).map (endLRow n ((z :: rs).length : Int) (err.isNone && y.isNone)) ++ D.rows.drop i } ∧ Fr H1 H' L L ∧ σ = [some (.ref L.db), some (oV err), some (.ref t.t), some (oV y), some (.int ((z :: rs).length : Int)), v5]) ?_ ?_ ?_ ?_
      · exact ⟨none, hD2, Fr.refl, rfl⟩
      · rintro i σ H' _ ⟨v5, hI, _, rfl⟩
        exact SqL.of hI.r
      · rintro i v σ H' hv ⟨v5, hI, fI, rfl⟩
        obtain ⟨w, hw, rfl⟩ := map_ref hv
        have hlw : L.ws.length = D.rows.length := hD.rows.len
        have hi : i < D.rows.length := by rw [← hlw]; exact (List.getElem?_eq_some_iff.mp hw).1
        obtain ⟨x, hx, hxw⟩ := hI.rows.get hw
        dsimp only at hx
        rw [cur_at (Nat.le_of_lt hi)] at hx
        have hxw : H' w.1 = some (.ins a.Write w.2 (rwF x)) := hxw
        have mw : Mut L w.1 := DbAt.mutW (List.mem_of_getElem? hw)
        obtain ⟨j3, j4, _⟩ : TxAt a.Transaction H' (some t) (some ⟨n, z :: rs⟩) := by
          have hx := hI.txs
          rw [et] at hx
          cases hx
          assumption
        dsimp only at j3 j4
        have fin1 : endLRow n ((z :: rs).length : Int) (err.isNone && y.isNone) x = x → DB a H' L { D with stack := some ⟨n, z :: rs⟩ :: st, rows := (D.rows.take (i + 1)).map (endLRow n ((z :: rs).length : Int) (err.isNone && y.isNone)) ++ D.rows.drop (i + 1) } := fun e => by
          rw [← cur_same hx e]; exact hI
        have fin2 : DB a (upd H' w.1 (.ins a.Write w.2 (rwF (endLRow n ((z :: rs).length : Int) (err.isNone && y.isNone) x)))) L { D with stack := some ⟨n, z :: rs⟩ :: st, rows := (D.rows.take (i + 1)).map (endLRow n ((z :: rs).length : Int) (err.isNone && y.isNone)) ++ D.rows.drop (i + 1) } := by
          rw [← cur_step hx]; exact hI.setRow hw
        walk_at "rd"
        refine ite2 (fun b1 => ?_) (fun b1 => ?_)
        · have q1 : x.fate = "open" := V.str.inj (of_decide_eq_true b1)
          walk_at "rd"
          refine ite2 (fun b2 => ?_) (fun b2 => ?_)
          · have q2 : x.holder = n := V.int.inj (of_decide_eq_true b2)
            walk_at "rd"
            refine ite2 (fun b3 => ?_) (fun b3 => ?_)
            · have q3 : x.level = ((z :: rs).length : Int) := V.int.inj (of_decide_eq_true b3)
              have er : endLRow n ((z :: rs).length : Int) (err.isNone && y.isNone) x = if (err.isNone && y.isNone) = true then { x with level := ((z :: rs).length : Int) - 1 } else { x with fate := "undone" } := if_pos ⟨q1, q2, q3⟩
              rw [er] at fin2
              cases err with
              | some e =>
                walk_at "rd"
                exact ⟨_, fin2, fI.trans (Fr.set mw), rfl⟩
              | none =>
                cases y with
                | some y =>
                  walk_at "rd"
                  exact ⟨_, fin2, fI.trans (Fr.set mw), rfl⟩
                | none =>
                  walk_at "rd"
                  exact ⟨_, fin2, fI.trans (Fr.set mw), rfl⟩
            · have q3 : ¬ x.level = ((z :: rs).length : Int) := fun e => b3 (decide_eq_true (congrArg V.int e))
              exact ⟨_, fin1 (if_neg fun c => q3 c.2.2), fI, rfl⟩
          · have q2 : ¬ x.holder = n := fun e => b2 (decide_eq_true (congrArg V.int e))
            exact ⟨_, fin1 (if_neg fun c => q2 c.2.1), fI, rfl⟩
        · have q1 : ¬ x.fate = "open" := fun e => b1 (decide_eq_true (congrArg V.str e))
          exact ⟨_, fin1 (if_neg fun c => q1 c.1), fI, rfl⟩
      · rintro σ H' ⟨v5, hI, fI, rfl⟩
        have hlw : L.ws.length = D.rows.length := hD.rows.len
        rw [List.length_map, hlw, List.take_length, List.drop_length, List.append_nil] at hI
        have k0 := k _ _ hI fI
        cases err with
        | some e =>
          walk_at "rd"
          cases y <;> exact k0
        | none =>
          cases y with
          | none =>
            walk_at "rd"
            exact k0
          | some y =>
            walk_at "rd"
            exact k0
def endTD (D : Db) (err : Option Str) (c : Bool) : Db × Option EK := match D.stack with
  | some ⟨n, y :: _⟩ :: st => ({ D with stack := st, rows := D.rows.map (endTRow n (if (err.isNone && y.isNone && c) = true then "kept" else "undone")) }, endE err y c)
  | _ => (D, none)
def spEndT (a : Ad) : Sp := fun vs H Q E => ∃ L D err c n y rs st, vs = [.ref L.db, oV err, .bl c] ∧ DB a H L D ∧ Sm D ∧ D.stack = some ⟨n, y :: rs⟩ :: st ∧ st ≠ [] ∧ outE a (endTD D err c) H L Q E
theorem ok_Database_end_transaction (T : Txt K mg a d) : FnOk P w K mg base (L2.CX P w) 1 a.Database_end_transaction d.Database_end_transaction ["self", "error", "commits"] (spEndT a) := by
  refine T.Database_end_transaction.okX sc_Database_end_transaction (fun vs H Q E h => ?_) (fun cdv A outer s H vs Q E hr h => ?_)
  · obtain ⟨L, D, err, c, n, y, rs, st, rfl, _⟩ := h
    rfl
  · obtain ⟨L, D, err, c, n, y, rs, st, rfl, hD, hm, es, hst, k⟩ := h
    have c1 := T.k_Database
    have c2 := T.k_Transaction
    have c3 := T.k_Write
    have n1 := T.na_Database_stack
    have n2 := T.na_Database_rows
    have n3 := T.na_Transaction_reasons
    have n4 := T.na_Transaction_number
    have n5 := T.na_Write_fate
    have n6 := T.na_Write_holder
    have h1 := hD.db
    have h2 := hD.s
    unfold endTD at k
    rw [es] at k
    dsimp only at k
    rcases hD.top with ⟨ts, st', et, es'⟩ | ⟨t, ts, x, st', y', rs', et, es', ex, h4, h5⟩
    · rw [es] at es'
      cases es'
    · rw [es] at es'
      cases es'
      cases ex
      rw [et] at h2
      have e1 := rv_pop (f := tV) (x := some t) (l := ts)
      have e2 := rv_at (f := oV) (x := y) (l := rs)
      have mt : some t ∈ L.ts := by rw [et]; exact List.mem_cons_self
      have hD2 := hD.popS et es hst
      have f2 := Fr.popS (H := H) (o := .lst (rv tV ts)) et
      have g1 := hD2.db
      have g3 := upd_oth (o := .lst (rv tV ts)) (ins_ne h4 hD.s) h4
      have g4 := upd_oth (o := .lst (rv tV ts)) ((hD.qn t mt).2.1) h5
      dsimp only at g1 g3 g4
      rw [← rv_drop (f := tV) (x := some t) (l := ts)] at hD2 f2 g1 g3 g4
      replace k := k.fr f2
      have ntw : ∀ w ∈ L.ws, t.t ≠ w.1 := fun w hw => by
        obtain ⟨x, hx⟩ := hD.row hw
        exact row_ne_tx hD hx mt
      refine ⟨_, (pss_cons (ps_set (i := 3) sc_Database_end_transaction.nd rfl (Or.inl rfl) (pe_bm0 PySem.F.plainAttrs_list PySem.F.slot_list_pop PySem.F.type_list_pop mt_pop (pe_fld (pv 0) rfl)))
  (pss_cons (ps_set (i := 4) sc_Database_end_transaction.nd rfl (Or.inl rfl) (pe_ix ix_list (pe_fld (pv 3) rfl) (pe_un un_neg pe_int) (fun _ _ => rfl)))
  (pss_cons (ps_set (i := 5) sc_Database_end_transaction.nd rfl (Or.inl rfl) (pe_ifExp (PW.pt (pw_and (pt_cmpR op_isN (pv 1) pe_non (nomark _)) (pw_and (pt_cmpR op_isN (pv 4) pe_non (nomark _)) (pw_and1 (pt_val (pv 2)))))) pe_str pe_str))
  (pss_cons (ps_for (passes_of rfl) rfl (pi_list (pe_fld (pv 0) rfl)) (pg_name (i := 6) sc_Database_end_transaction.nd rfl (Or.inl rfl))
  (pss_one (ps_if (PW.pt (pw_and (pt_cmpR op_eq (pe_fld (pv 6) rfl) pe_str (nomark _)) (pw_and1 (pt_cmpR op_eq (pe_fld (pv 6) rfl) (pe_fld (pv 3) rfl) (nomark _))))) (pss_one (ps_fld (pv 6) (pv 5) rfl)) pss_nil)))
  (pss_cons (ps_if (PW.pt (pw_and (pt_cmpR op_isN (pv 1) pe_non (nomark _)) (pw_and1 (pt_cmpR op_notN (pv 4) pe_non (nomark _))))) (pss_one (ps_raise rfl (takes_of rfl rfl rfl rfl) (pmk_err T.e_Doomed T.g_Doomed T.n_super hr (pa_cons (pv 4) pa_nil)))) pss_nil)
  (pss_one (ps_if (PW.pt (pw_and (pt_cmpR op_isN (pv 1) pe_non (nomark _)) (pw_and1 (pt_not (pt_val (pv 2)))))) (pss_one (ps_raise rfl (takes_of rfl rfl rfl rfl) (pmk_err0 T.e_Refused T.g_Refused T.n_super hr))) pss_nil))))))), ?_⟩
      dsimp only [cxOf]
      walk_at "rd"
      generalize upd H L.s (.lst (rv tV (some t :: ts)).dropLast) = H1 at hD2 f2 g1 g3 g4 k ⊢
      have hlw : L.ws.length = D.rows.length := hD.rows.len
      cases err with
      | some e =>
        walk_at "rd"
        refine ⟨⟨_, SqL.of hD2.r⟩, ?_⟩
        refine for_list (xs := L.ws.map fun w => V.ref w.1) (fun i σ H' => ∃ v6, DB a H' { L with ts := ts } { D with stack := st, rows := (D.rows.take i).map (endTRow n "undone") ++ D.rows.drop i } ∧ Fr H1 H' { L with ts := ts } { L with ts := ts } ∧ H' t.t = some (.ins a.Transaction t.dt (txF n t.q)) ∧ σ = [some (.ref L.db), some (oV (some e)), some (.bl c), some (.ref t.t), some (oV y), some (.str "undone"), v6]) ?_ ?_ ?_ ?_
        · exact ⟨none, hD2, Fr.refl, g3, rfl⟩
        · rintro i σ H' _ ⟨v6, hI, _, _, rfl⟩
          exact SqL.of hI.r
        · rintro i v σ H' hv ⟨v6, hI, fI, j3, rfl⟩
          obtain ⟨w, hw, rfl⟩ := map_ref hv
          have hi : i < D.rows.length := by rw [← hlw]; exact (List.getElem?_eq_some_iff.mp hw).1
          obtain ⟨x, hx, hxw⟩ := hI.rows.get hw
          dsimp only at hx
          rw [cur_at (Nat.le_of_lt hi)] at hx
          have hxw : H' w.1 = some (.ins a.Write w.2 (rwF x)) := hxw
          have wm := List.mem_of_getElem? hw
          have mw : Mut { L with ts := ts } w.1 := DbAt.mutW (L := { L with ts := ts }) wm
          have fin1 : endTRow n "undone" x = x → DB a H' { L with ts := ts } { D with stack := st, rows := (D.rows.take (i + 1)).map (endTRow n "undone") ++ D.rows.drop (i + 1) } := fun e => by
            rw [← cur_same hx e]; exact hI
          have fin2 : DB a (upd H' w.1 (.ins a.Write w.2 (rwF (endTRow n "undone" x)))) { L with ts := ts } { D with stack := st, rows := (D.rows.take (i + 1)).map (endTRow n "undone") ++ D.rows.drop (i + 1) } := by
            rw [← cur_step hx]; exact hI.setRow (L := { L with ts := ts }) hw
          walk_at "rd"
          refine ite2 (fun b1 => ?_) (fun b1 => ?_)
          · have q1 : x.fate = "open" := V.str.inj (of_decide_eq_true b1)
            walk_at "rd"
            refine ite2 (fun b2 => ?_) (fun b2 => ?_)
            · have q2 : x.holder = n := V.int.inj (of_decide_eq_true b2)
              have er : endTRow n "undone" x = { x with fate := "undone" } := if_pos ⟨q1, q2⟩
              rw [er] at fin2
              walk_at "rd"
              exact ⟨_, fin2, fI.trans (Fr.set mw), upd_oth (ntw w wm) j3, rfl⟩
            · have q2 : ¬ x.holder = n := fun e => b2 (decide_eq_true (congrArg V.int e))
              exact ⟨_, fin1 (if_neg fun c => q2 c.2), fI, j3, rfl⟩
          · have q1 : ¬ x.fate = "open" := fun e => b1 (decide_eq_true (congrArg V.str e))
            exact ⟨_, fin1 (if_neg fun c => q1 c.1), fI, j3, rfl⟩
        · rintro σ H' ⟨v6, hI, fI, j3, rfl⟩
          rw [List.length_map, hlw, List.take_length, List.drop_length, List.append_nil] at hI
          have k0 := k _ _ hI fI
          walk_at "rd"
          cases y <;> exact k0
      | none =>
        cases y with
        | some y =>
          walk_at "rd"
          refine ⟨⟨_, SqL.of hD2.r⟩, ?_⟩
          refine for_list (xs := L.ws.map fun w => V.ref w.1) (fun i σ H' => ∃ v6, DB a H' { L with ts := ts } { D with stack := st, rows := (D.rows.take i).map (endTRow n "undone") ++ D.rows.drop i } ∧ Fr H1 H' { L with ts := ts } { L with ts := ts } ∧ H' t.t = some (.ins a.Transaction t.dt (txF n t.q)) ∧ σ = [some (.ref L.db), some (oV none), some (.bl c), some (.ref t.t), some (oV (some y)), some (.str "undone"), v6]) ?_ ?_ ?_ ?_
          · exact ⟨none, hD2, Fr.refl, g3, rfl⟩
          · rintro i σ H' _ ⟨v6, hI, _, _, rfl⟩
            exact SqL.of hI.r
          · rintro i v σ H' hv ⟨v6, hI, fI, j3, rfl⟩
            obtain ⟨w, hw, rfl⟩ := map_ref hv
            have hi : i < D.rows.length := by rw [← hlw]; exact (List.getElem?_eq_some_iff.mp hw).1
            obtain ⟨x, hx, hxw⟩ := hI.rows.get hw
            dsimp only at hx
            rw [cur_at (Nat.le_of_lt hi)] at hx
            have hxw : H' w.1 = some (.ins a.Write w.2 (rwF x)) := hxw
            have wm := List.mem_of_getElem? hw
            have mw : Mut { L with ts := ts } w.1 := DbAt.mutW (L := { L with ts := ts }) wm
            have fin1 : endTRow n "undone" x = x → DB a H' { L with ts := ts } { D with stack := st, rows := (D.rows.take (i + 1)).map (endTRow n "undone") ++ D.rows.drop (i + 1) } := fun e => by
              rw [← cur_same hx e]; exact hI
            have fin2 : DB a (upd H' w.1 (.ins a.Write w.2 (rwF (endTRow n "undone" x)))) { L with ts := ts } { D with stack := st, rows := (D.rows.take (i + 1)).map (endTRow n "undone") ++ D.rows.drop (i + 1) } := by
              rw [← cur_step hx]; exact hI.setRow (L := { L with ts := ts }) hw
            walk_at "rd"
            refine ite2 (fun b1 => ?_) (fun b1 => ?_)
            · have q1 : x.fate = "open" := V.str.inj (of_decide_eq_true b1)
              walk_at "rd"
              refine ite2 (fun b2 => ?_) (fun b2 => ?_)
              · have q2 : x.holder = n := V.int.inj (of_decide_eq_true b2)
                have er : endTRow n "undone" x = { x with fate := "undone" } := if_pos ⟨q1, q2⟩
                rw [er] at fin2
                walk_at "rd"
                exact ⟨_, fin2, fI.trans (Fr.set mw), upd_oth (ntw w wm) j3, rfl⟩
              · have q2 : ¬ x.holder = n := fun e => b2 (decide_eq_true (congrArg V.int e))
                exact ⟨_, fin1 (if_neg fun c => q2 c.2), fI, j3, rfl⟩
            · have q1 : ¬ x.fate = "open" := fun e => b1 (decide_eq_true (congrArg V.str e))
              exact ⟨_, fin1 (if_neg fun c => q1 c.1), fI, j3, rfl⟩
          · rintro σ H' ⟨v6, hI, fI, j3, rfl⟩
            rw [List.length_map, hlw, List.take_length, List.drop_length, List.append_nil] at hI
            have k0 := k _ _ hI fI
            walk_at "rd"
            exact k0
        | none =>
          cases c with
          | true =>
            walk_at "rd"
            refine ⟨⟨_, SqL.of hD2.r⟩, ?_⟩
            refine for_list (xs := L.ws.map fun w => V.ref w.1) (fun i σ H' => ∃ v6, DB a H' { L with ts := ts } { D with stack := st, rows := (D.rows.take i).map (endTRow n "kept") ++ D.rows.drop i } ∧ Fr H1 H' { L with ts := ts } { L with ts := ts } ∧ H' t.t = some (.ins a.Transaction t.dt (txF n t.q)) ∧ σ = [some (.ref L.db), some (oV none), some (.bl true), some (.ref t.t), some (oV none), some (.str "kept"), v6]) ?_ ?_ ?_ ?_
            · exact ⟨none, hD2, Fr.refl, g3, rfl⟩
            · rintro i σ H' _ ⟨v6, hI, _, _, rfl⟩
              exact SqL.of hI.r
            · rintro i v σ H' hv ⟨v6, hI, fI, j3, rfl⟩
              obtain ⟨w, hw, rfl⟩ := map_ref hv
              have hi : i < D.rows.length := by rw [← hlw]; exact (List.getElem?_eq_some_iff.mp hw).1
              obtain ⟨x, hx, hxw⟩ := hI.rows.get hw
              dsimp only at hx
              rw [cur_at (Nat.le_of_lt hi)] at hx
              have hxw : H' w.1 = some (.ins a.Write w.2 (rwF x)) := hxw
              have wm := List.mem_of_getElem? hw
              have mw : Mut { L with ts := ts } w.1 := DbAt.mutW (L := { L with ts := ts }) wm
              have fin1 : endTRow n "kept" x = x → DB a H' { L with ts := ts } { D with stack := st, rows := (D.rows.take (i + 1)).map (endTRow n "kept") ++ D.rows.drop (i + 1) } := fun e => by
                rw [← cur_same hx e]; exact hI
              have fin2 : DB a (upd H' w.1 (.ins a.Write w.2 (rwF (endTRow n "kept" x)))) { L with ts := ts } { D with stack := st, rows := (D.rows.take (i + 1)).map (endTRow n "kept") ++ D.rows.drop (i + 1) } := by
                rw [← cur_step hx]; exact hI.setRow (L := { L with ts := ts }) hw
              walk_at "rd"
              refine ite2 (fun b1 => ?_) (fun b1 => ?_)
              · have q1 : x.fate = "open" := V.str.inj (of_decide_eq_true b1)
                walk_at "rd"
                refine ite2 (fun b2 => ?_) (fun b2 => ?_)
                · have q2 : x.holder = n := V.int.inj (of_decide_eq_true b2)
                  have er : endTRow n "kept" x = { x with fate := "kept" } := if_pos ⟨q1, q2⟩
                  rw [er] at fin2
                  walk_at "rd"
                  exact ⟨_, fin2, fI.trans (Fr.set mw), upd_oth (ntw w wm) j3, rfl⟩
                · have q2 : ¬ x.holder = n := fun e => b2 (decide_eq_true (congrArg V.int e))
                  exact ⟨_, fin1 (if_neg fun c => q2 c.2), fI, j3, rfl⟩
              · have q1 : ¬ x.fate = "open" := fun e => b1 (decide_eq_true (congrArg V.str e))
                exact ⟨_, fin1 (if_neg fun c => q1 c.1), fI, j3, rfl⟩
            · rintro σ H' ⟨v6, hI, fI, j3, rfl⟩
              rw [List.length_map, hlw, List.take_length, List.drop_length, List.append_nil] at hI
              have k0 := k _ _ hI fI
              walk_at "rd"
              exact k0
          | false =>
            walk_at "rd"
            refine ⟨⟨_, SqL.of hD2.r⟩, ?_⟩
            refine for_list (xs := L.ws.map fun w => V.ref w.1) (fun i σ H' => ∃ v6, DB a H' { L with ts := ts } { D with stack := st, rows := (D.rows.take i).map (endTRow n "undone") ++ D.rows.drop i } ∧ Fr H1 H' { L with ts := ts } { L with ts := ts } ∧ H' t.t = some (.ins a.Transaction t.dt (txF n t.q)) ∧ σ = [some (.ref L.db), some (oV none), some (.bl false), some (.ref t.t), some (oV none), some (.str "undone"), v6]) ?_ ?_ ?_ ?_
            · exact ⟨none, hD2, Fr.refl, g3, rfl⟩
            · rintro i σ H' _ ⟨v6, hI, _, _, rfl⟩
              exact SqL.of hI.r
            · rintro i v σ H' hv ⟨v6, hI, fI, j3, rfl⟩
              obtain ⟨w, hw, rfl⟩ := map_ref hv
              have hi : i < D.rows.length := by rw [← hlw]; exact (List.getElem?_eq_some_iff.mp hw).1
              obtain ⟨x, hx, hxw⟩ := hI.rows.get hw
              dsimp only at hx
              rw [cur_at (Nat.le_of_lt hi)] at hx
              have hxw : H' w.1 = some (.ins a.Write w.2 (rwF x)) := hxw
              have wm := List.mem_of_getElem? hw
              have mw : Mut { L with ts := ts } w.1 := DbAt.mutW (L := { L with ts := ts }) wm
              have fin1 : endTRow n "undone" x = x → DB a H' { L with ts := ts } { D with stack := st, rows := (D.rows.take (i + 1)).map (endTRow n "undone") ++ D.rows.drop (i + 1) } := fun e => by
                rw [← cur_same hx e]; exact hI
              have fin2 : DB a (upd H' w.1 (.ins a.Write w.2 (rwF (endTRow n "undone" x)))) { L with ts := ts } { D with stack := st, rows := (D.rows.take (i + 1)).map (endTRow n "undone") ++ D.rows.drop (i + 1) } := by
                rw [← cur_step hx]; exact hI.setRow (L := { L with ts := ts }) hw
              walk_at "rd"
              refine ite2 (fun b1 => ?_) (fun b1 => ?_)
              · have q1 : x.fate = "open" := V.str.inj (of_decide_eq_true b1)
                walk_at "rd"
                refine ite2 (fun b2 => ?_) (fun b2 => ?_)
                · have q2 : x.holder = n := V.int.inj (of_decide_eq_true b2)
                  have er : endTRow n "undone" x = { x with fate := "undone" } := if_pos ⟨q1, q2⟩
                  rw [er] at fin2
                  walk_at "rd"
                  exact ⟨_, fin2, fI.trans (Fr.set mw), upd_oth (ntw w wm) j3, rfl⟩
                · have q2 : ¬ x.holder = n := fun e => b2 (decide_eq_true (congrArg V.int e))
                  exact ⟨_, fin1 (if_neg fun c => q2 c.2), fI, j3, rfl⟩
              · have q1 : ¬ x.fate = "open" := fun e => b1 (decide_eq_true (congrArg V.str e))
                exact ⟨_, fin1 (if_neg fun c => q1 c.1), fI, j3, rfl⟩
            · rintro σ H' ⟨v6, hI, fI, j3, rfl⟩
              rw [List.length_map, hlw, List.take_length, List.drop_length, List.append_nil] at hI
              have k0 := k _ _ hI fI
              walk_at "rd"
              exact k0
/-! ### leave -/
theorem bd_leave0 (T : Txt K mg a d) : ∃ ds, Vals [V.non, .bl true] ds ∧ Binds K d.Database_leave ["self", "error", "commits"] ds :=
  T.Database_leave.binds (ps := ["self", "error", "commits"]) 1 0 (by simp) rfl (fun T D doc pm an cdv ct us its ks hu hi hk => match us, hu, its, hi, ks, hk with | [_], _, [_], _, [_], _ => ⟨_, rfl, _, _, _, _, _, _, rfl, rfl, rfl⟩) (by simp)
theorem bd_leave1 (T : Txt K mg a d) : ∃ ds, Vals [V.bl true] ds ∧ Binds K d.Database_leave ["self", "error", "commits"] ds :=
  T.Database_leave.binds (ps := ["self", "error", "commits"]) 2 1 (by simp) rfl (fun T D doc pm an cdv ct us its ks hu hi hk => match us, hu, its, hi, ks, hk with | [_, _], _, [_], _, [_], _ => ⟨_, rfl, _, _, _, _, _, _, rfl, rfl, rfl⟩) (by simp)
/-- the blocks and the transactions fit -/
inductive Wf : List Str → List (Option Tx) → Prop
  | nil : Wf [] [none]
  | plain {es st} (h : Wf es (none :: st)) : Wf ("plain" :: es) (none :: st)
  | base {es st n y} (h : Wf es st) : Wf ("base" :: es) (some ⟨n, [y]⟩ :: st)
  | level {es st n y z rs} (h : Wf es (some ⟨n, z :: rs⟩ :: st)) : Wf ("level" :: es) (some ⟨n, y :: z :: rs⟩ :: st)
  | joined {es st n y rs} (h : Wf es (some ⟨n, y :: rs⟩ :: st)) : Wf ("joined" :: es) (some ⟨n, y :: rs⟩ :: st)
  | outside {es st x} (h : Wf es (some x :: st)) : Wf ("outside" :: es) (none :: some x :: st)
theorem Wf.ne {es : List Str} {st : List (Option Tx)} (h : Wf es st) : st ≠ [] := by cases h <;> simp
def leaveW (D : Db) (err : Option Str) (c : Bool) : Db × Option EK := match D.entered with
  | [] => (D, some .noblock)
  | e :: es =>
    if e = "outside" then ({ D with entered := es, stack := D.stack.tail }, none) else
    if e = "joined" then ((match err with
      | some z => doomD { D with entered := es } z
      | none => { D with entered := es }), none) else
    if e = "level" then endLD { D with entered := es } err else
    if e = "base" then endTD { D with entered := es } err c else
    ({ D with entered := es }, none)
def leaveD (D : Db) (err : Option Str) (c : Bool) : Db × Option EK := if (D.entered.length : Int) ≤ D.floor then (D, some .noblock) else leaveW D err c
def leaveV (D : Db) (v : V) (c : Bool) : Db × Option EK := match v with
  | .non => leaveD D none c
  | .str z => if wordS z = true then leaveD D (some z) c else if (D.entered.length : Int) ≤ D.floor then (D, some .noblock) else (D, some (.badword v))
  | v => if (D.entered.length : Int) ≤ D.floor then (D, some .noblock) else (D, some (.badword v))
theorem leaveV_o {D : Db} {err : Option Str} {c : Bool} (h : ∀ z, err = some z → IsWord z) : leaveV D (oV err) c = leaveD D err c := by
  cases err with
  | none => rfl
  | some z =>
    show (if wordS z = true then _ else _) = _
    rw [if_pos (h z rfl).ok]
def spLeave (a : Ad) : Sp := fun vs H Q E => ∃ L D v c, vs = [.ref L.db, v, .bl c] ∧ Thing H v ∧ DB a H L D ∧ Sm D ∧ 0 ≤ D.floor ∧ Wf D.entered D.stack ∧ outE a (leaveV D v c) H L Q E
theorem ok_Database_leave (T : Txt K mg a d) : FnOk P w K mg base (L2.CX P w) 3 a.Database_leave d.Database_leave ["self", "error", "commits"] (spLeave a) := by
  have G_is_word : FnOk P w K mg base CX0 1 a.is_word d.is_word ["thing"] spIsWord := ok_is_word T
  have G_Database_doom : FnOk P w K mg base (L2.CX P w) 2 a.Database_doom d.Database_doom ["self", "first"] (spDoom a) := ok_Database_doom T
  have G_Database_end_level : FnOk P w K mg base (L2.CX P w) 1 a.Database_end_level d.Database_end_level ["self", "error"] (spEndL a) := ok_Database_end_level T
  have G_Database_end_transaction : FnOk P w K mg base (L2.CX P w) 1 a.Database_end_transaction d.Database_end_transaction ["self", "error", "commits"] (spEndT a) := ok_Database_end_transaction T
  refine T.Database_leave.ok sc_Database_leave (fun vs H Q E h => ?_) (fun cdv A outer s H vs Q E hr h => ?_)
  · obtain ⟨L, D, v, c, rfl, _⟩ := h
    rfl
  · obtain ⟨L, D, v, c, rfl, tv, hD, hm, hfl, hw, k⟩ := h
    have c1 := T.k_Database
    have n1 := T.na_Database_stack
    have n2 := T.na_Database_entered
    have n3 := T.na_Database_floor
    have h1 := hD.db
    have h2 := hD.s
    have h3 := hD.e
    refine ⟨_, (pss_cons (ps_if (pt_cmpR op_le (pe_callB call_len_seq (by rfl) T.n_len PySem.boot_len (pa_cons (pe_fld (pv 0) rfl) pa_nil)) (pe_fld (pv 0) rfl) (nomark _)) (pss_one (ps_raise rfl (takes_of rfl rfl rfl rfl) (pmk_err0 T.e_NoBlock T.g_NoBlock T.n_super hr))) pss_nil)
  (pss_cons (ps_if (PW.pt (pw_and (pt_cmpR op_notN (pv 1) pe_non (nomark _)) (pw_and1 (pt_not (pt_val (pe_call G_is_word (hr.mono (by decide)) (by rfl) T.g_is_word T.is_word.kp T.b_is_word .nil pass0 (pa_cons (pv 1) pa_nil))))))) (pss_one (ps_raise rfl (takes_of rfl rfl rfl rfl) (pmk_err T.e_BadWord T.g_BadWord T.n_super hr (pa_cons (pv 1) pa_nil)))) pss_nil)
  (pss_cons (ps_set (i := 3) sc_Database_leave.nd rfl (Or.inl rfl) (pe_bm0 PySem.F.plainAttrs_list PySem.F.slot_list_pop PySem.F.type_list_pop mt_pop (pe_fld (pv 0) rfl)))
  (pss_one (ps_if (pt_cmpR op_eq (pv 3) pe_str (nomark _)) (pss_one (ps_expr (pe_bm0 PySem.F.plainAttrs_list PySem.F.slot_list_pop PySem.F.type_list_pop mt_pop (pe_fld (pv 0) rfl)))) (pss_one (ps_if (PW.pt (pw_and (pt_cmpR op_eq (pv 3) pe_str (nomark _)) (pw_and1 (pt_cmpR op_notN (pv 1) pe_non (nomark _))))) (pss_one (ps_expr (pe_meth (pv 0) T.k_Database T.m_Database_doom G_Database_doom (hr.mono (by decide)) (bd_doom T) .nil (passes_call (takes_of rfl rfl rfl rfl) (fun _ _ _ _ h => h)) (pa_cons (pv 1) pa_nil)))) (pss_one (ps_if (pt_cmpR op_eq (pv 3) pe_str (nomark _)) (pss_one (ps_expr (pe_meth (pv 0) T.k_Database T.m_Database_end_level G_Database_end_level (hr.mono (by decide)) T.b_Database_end_level .nil (passes_call (takes_of rfl rfl rfl rfl) (fun _ _ _ _ h => h)) (pa_cons (pv 1) pa_nil)))) (pss_one (ps_if (pt_cmpR op_eq (pv 3) pe_str (nomark _)) (pss_one (ps_expr (pe_meth (pv 0) T.k_Database T.m_Database_end_transaction G_Database_end_transaction (hr.mono (by decide)) T.b_Database_end_transaction .nil (passes_call (takes_of rfl rfl rfl rfl) (fun _ _ _ _ h => h)) (pa_cons (pv 1) (pa_cons (pv 2) pa_nil))))) pss_nil))))))))))), ?_⟩
    dsimp only [cxOf]
    walk_at "rd"
    rw [rv_len]
    by_cases hfl2 : (D.entered.length : Int) ≤ D.floor
    · have k1 : outE a (D, some .noblock) H L Q E := by
        have e : leaveV D v c = (D, some .noblock) := by
          unfold leaveV leaveD
          repeat' split
          all_goals first | rfl | contradiction
        rw [e] at k
        exact k
      rw [decide_eq_true hfl2]
      refine iteT ?_
      walk_at "rd"
      exact k1 H L hD Fr.refl
    rw [decide_eq_false hfl2]
    refine iteF ?_
    have go : ∀ err : Option Str, (∀ z, err = some z → IsWord z) → v = oV err → outE a (leaveW D err c) H L Q E := fun err he hv => by
      subst hv
      rw [leaveV_o he] at k
      unfold leaveD at k
      rw [if_neg hfl2] at k
      exact k
    cases hent : D.entered with
    | nil =>
      rw [hent] at hfl2
      exact absurd hfl hfl2
    | cons e es =>
      rw [hent] at h3 hw
      have e2 := rv_pop (f := V.str) (x := e) (l := es)
      have hw2 := hw
      generalize est : D.stack = stk at hw2
      have hD2 := hD.setE es
      have f2 := Fr.set (H := H) (L := L) (o := .lst (rv V.str es)) DbAt.mutE
      have hm2 : Sm { D with entered := es } := ⟨by have := hm.e; rw [hent, List.length_cons] at this; exact Nat.le_of_succ_le this, hm.s, hm.r, hm.n⟩
      have g1 := hD2.db
      dsimp only at g1
      rw [← rv_drop (f := V.str) (x := e) (l := es)] at hD2 f2 g1
      have kk : ∀ err : Option Str, (∀ z, err = some z → IsWord z) → v = oV err → outE a (if e = "outside" then ({ D with entered := es, stack := D.stack.tail }, none) else if e = "joined" then ((match err with
          | some z => doomD { D with entered := es } z
          | none => { D with entered := es }), none) else if e = "level" then endLD { D with entered := es } err else if e = "base" then endTD { D with entered := es } err c else ({ D with entered := es }, none)) H L Q E := fun err he hv => by
        have := go err he hv
        unfold leaveW at this
        rw [hent] at this
        exact this
      cases hv0 : decide (v = .non) with
      | true =>
        cases (of_decide_eq_true hv0 : v = .non)
        have k0 := kk none (fun z e => nomatch e) rfl
        walk_at "rd"
        generalize upd H L.e (.lst (rv V.str (e :: es)).dropLast) = H2 at hD2 f2 g1 ⊢
        cases hw2 with
        | plain h =>
          walk_at "rd"
          have z := k0 _ _ hD2 f2
          exact z
        | outside h =>
          have et := hD2.top
          rcases et with ⟨ts, st', et, es'⟩ | ⟨t, ts, x, st', y', rs', et, es', ex, h4, h5⟩
          · dsimp only at es'
            rw [est] at es'
            cases es'
            have g2 := hD2.s
            rw [et] at g2
            have e3 := rv_pop (f := tV) (x := none) (l := ts)
            walk_at "rd"
            have hD3 := hD2.popS et est (by simp)
            have f3 := Fr.popS (H := H2) (o := .lst (rv tV ts)) et
            rw [← rv_drop (f := tV) (x := none) (l := ts)] at hD3 f3
            rw [est] at k0
            exact k0 _ _ hD3 (f2.trans f3)
          · dsimp only at es'
            rw [est] at es'
            cases es'
        | joined h =>
          walk_at "rd"
          have z := k0 _ _ hD2 f2
          exact z
        | level h =>
          walk_at "rd"
          exact ⟨L, { D with entered := es }, none, _, _, _, _, _, rfl, hD2, hm2, est, outE.fr k0 f2⟩
        | base h =>
          walk_at "rd"
          exact ⟨L, { D with entered := es }, none, c, _, _, _, _, rfl, hD2, hm2, est, h.ne, outE.fr k0 f2⟩
      | false =>
        have hnv : ¬ v = .non := of_decide_eq_false hv0
        walk_at "rd"
        rw [hv0]
        walk_at "rd"
        cases bz : wordB v with
        | false =>
          have k1 : outE a (D, some (.badword v)) H L Q E := by
            have e : leaveV D v c = (D, some (.badword v)) := by
              unfold leaveV
              split
              · exact absurd rfl hnv
              · rename_i z
                rw [if_neg (show ¬ wordS z = true from fun q => by rw [show wordB (.str z) = wordS z from rfl, q] at bz; cases bz), if_neg hfl2]
              · rw [if_neg hfl2]
            rw [e] at k
            exact k
          refine iteT ?_
          walk_at "rd"
          exact k1 H L hD Fr.refl
        | true =>
          refine iteF ?_
          obtain ⟨z, rfl⟩ : ∃ z, v = .str z := by
            cases v <;> first | exact ⟨_, rfl⟩ | cases bz
          have hz : IsWord z := wordS_of bz
          have k0 := kk (some z) (fun z' e => Option.some.inj e ▸ hz) rfl
          have tz := word_thing (H := upd H L.e (.lst (rv V.str (e :: es)).dropLast)) hz
          walk_at "rd"
          generalize upd H L.e (.lst (rv V.str (e :: es)).dropLast) = H2 at hD2 f2 g1 tz ⊢
          cases hw2 with
          | plain h =>
            walk_at "rd"
            have z := k0 _ _ hD2 f2
            exact z
          | outside h =>
            have et := hD2.top
            rcases et with ⟨ts, st', et, es'⟩ | ⟨t, ts, x, st', y', rs', et, es', ex, h4, h5⟩
            · dsimp only at es'
              rw [est] at es'
              cases es'
              have g2 := hD2.s
              rw [et] at g2
              have e3 := rv_pop (f := tV) (x := none) (l := ts)
              walk_at "rd"
              have hD3 := hD2.popS et est (by simp)
              have f3 := Fr.popS (H := H2) (o := .lst (rv tV ts)) et
              rw [← rv_drop (f := tV) (x := none) (l := ts)] at hD3 f3
              rw [est] at k0
              exact k0 _ _ hD3 (f2.trans f3)
            · dsimp only at es'
              rw [est] at es'
              cases es'
          | joined h =>
            walk_at "rd"
            refine ⟨L, { D with entered := es }, .str z, rfl, tz, hD2, ?_⟩
            rw [doomV_word hz]
            exact outE.fr k0 f2
          | level h =>
            walk_at "rd"
            exact ⟨L, { D with entered := es }, (some z), _, _, _, _, _, rfl, hD2, hm2, est, outE.fr k0 f2⟩
          | base h =>
            walk_at "rd"
            exact ⟨L, { D with entered := es }, (some z), c, _, _, _, _, rfl, hD2, hm2, est, h.ne, outE.fr k0 f2⟩
theorem cut_rv {α : Type} {f : α → V} {x : α} {l : List α} : cutV (rv f (x :: l)) none (some (-1)) = rv f l := by
  rw [rv_cons]
  show List.take (HT.sIx (rv f l ++ [f x]).length (rv f l ++ [f x]).length (some (-1)) - 0) (List.drop 0 (rv f l ++ [f x])) = rv f l
  rw [List.drop_zero, Nat.sub_zero]
  have e : HT.sIx (rv f l ++ [f x]).length (rv f l ++ [f x]).length (some (-1)) = (rv f l).length := by
    unfold HT.sIx
    rw [List.length_append, List.length_singleton]
    simp only
    rw [if_pos (by decide)]
    omega
  rw [e, List.take_left]
/-! ### held records -/
def spHeldBy (K : PySem.W.Frag) (a : Ad) : Sp := fun vs H Q _ => ∃ L D p ns, vs = [.ref L.db, .ref p] ∧ SqL K H p (ns.map V.int) ∧ DB a H L D ∧ Sm D ∧
  ∀ H' q, Same H H' → H' q = some (.lst ((sortT (heldL D.rows ns)).map V.str)) → H q = none → Q (.ref q) H'
theorem inV_ints {i : Int} {ns : List Int} : inV (.int i) (ns.map V.int) = decide (i ∈ ns) := by
  unfold inV
  rw [List.any_map]
  induction ns with
  | nil => rfl
  | cons n r ih =>
    rw [List.any_cons, ih]
    have e : eqV (V.int n) (V.int i) = decide (n = i) := by
      show (n == i) = decide (n = i)
      exact (by by_cases h : n = i <;> simp [h])
    show (eqV (V.int n) (V.int i) || decide (i ∈ r)) = _
    rw [e]
    by_cases h : n = i
    · subst h
      simp
    · have h' : ¬ i = n := fun z => h z.symm
      simp [h, h']
theorem ok_Database_held_by (T : Txt K mg a d) : FnOk P w K mg base CX0 1 a.Database_held_by d.Database_held_by ["self", "numbers"] (spHeldBy K a) := by
  refine T.Database_held_by.ok sc_Database_held_by (fun vs H Q E h => ?_) (fun cdv A outer s H vs Q E hr h => ?_)
  · obtain ⟨L, D, p, ns, rfl, _⟩ := h
    rfl
  · obtain ⟨L, D, p, ns, rfl, hp, hD, hm, k⟩ := h
    have c1 := T.k_Database
    have c3 := T.k_Write
    have n2 := T.na_Database_rows
    have n5 := T.na_Write_fate
    have n6 := T.na_Write_holder
    have n7 := T.na_Write_record
    have h1 := hD.db
    have h2 := hD.r
    refine ⟨_, (pss_one (ps_ret (pe_callB (cr_sortTS rfl) (by rfl) T.n_sorted (by decide +kernel) (pa_cons (pe_scT (own := [("row", 2)]) rfl sc_Database_held_by.nd (pi_list (pe_fld (pv 0) rfl)) (blkOk_by (own := [("row", 2)]) (N := ["self", "numbers", "row"]) (sc := defScope s_Database_held_by) (by decide +kernel)) (fun _ _ _ _ _ => (pg_name (i := 2) sc_Database_held_by.nd rfl (Or.inl rfl))) (fun _ _ _ _ _ => (pts_one (PW.pt (pw_and (pt_cmpR op_eq (pe_fldK (K := K) rfl (pv 2) rfl) pe_str (nomark _)) (pw_and1 (pt_cmpR (op_inK (K := K) rfl) (pe_fldK (K := K) rfl (pv 2) rfl) (pv 1) (by rfl))))))) (fun _ _ _ _ _ => (pe_fldK (K := K) rfl (pv 2) rfl))) pa_nil)))), ?_⟩
    dsimp only [cxOf]
    walk_at "rd"
    refine ⟨⟨_, SqL.of h2⟩, ?_⟩
    intro S hS
    have hlw : L.ws.length = D.rows.length := hD.rows.len
    refine sc_listT (xs := L.ws.map fun w => V.ref w.1) (fun i H' => Kp (fun b => b = S) H H' ∧ H' S = some (TSO w S (heldL (D.rows.take i) ns))) ?_ ?_ ?_ ?_
    · exact ⟨Kp.refl.fresh hS, upd_same⟩
    · rintro i H' _ ⟨kp, _⟩
      exact SqL.of (kp _ _ h2 (ne_of_none h2 hS))
    · rintro i v H' hv ⟨kp, hS'⟩
      obtain ⟨w', hw, rfl⟩ := map_ref hv
      obtain ⟨x, hx, hxw⟩ := hD.rows.get hw
      have hxw : H w'.1 = some (.ins a.Write w'.2 (rwF x)) := hxw
      have hx' := kp _ _ hxw (ne_of_none hxw hS)
      have hp' : SqL K H' p (ns.map V.int) := (Same.seq (Kp.same (Same.refl H) kp fun c e => e ▸ hS) hp)
      have hl : (heldL (D.rows.take i) ns).length + 1 < scanBound := by
        have h1 := held_len (rows := D.rows.take i) (ns := ns)
        have h2 := hm.n
        have h3 : (D.rows.take i).length ≤ D.rows.length := by rw [List.length_take]; omega
        have h4 : scanBound = 4096 := rfl
        omega
      rw [held_take (ns := ns) hx]
      walk_at "rd"
      refine ite2 (fun b1 => ?_) (fun b1 => ?_)
      · have q1 : x.fate = "open" := V.str.inj (of_decide_eq_true b1)
        walk_at "rd"
        refine ⟨?_, ?_⟩
        · rw [List.all_map]
          exact List.all_eq_true.mpr fun _ _ => rfl
        rw [show (if false = true then !inV (V.int x.holder) (ns.map V.int) else inV (V.int x.holder) (ns.map V.int)) = inV (V.int x.holder) (ns.map V.int) from rfl, inV_ints]
        by_cases b2 : x.holder ∈ ns
        · rw [decide_eq_true b2, show heldS ns (heldL (D.rows.take i) ns) x = addT x.rcd (heldL (D.rows.take i) ns) from if_pos ⟨q1, b2⟩]
          walk_at "rd"
          first
            | exact ⟨kp.set1, upd_same⟩
            | exact upd_same
        · rw [decide_eq_false b2, show heldS ns (heldL (D.rows.take i) ns) x = heldL (D.rows.take i) ns from if_neg fun c => b2 c.2]
          exact ⟨_, rfl, kp, hS'⟩
      · have q1 : ¬ x.fate = "open" := fun e => b1 (decide_eq_true (congrArg V.str e))
        rw [show heldS ns (heldL (D.rows.take i) ns) x = heldL (D.rows.take i) ns from if_neg fun c => q1 c.1]
        exact ⟨kp, hS'⟩
    · rintro H' ⟨kp, hS'⟩
      rw [List.length_map, hlw, List.take_length] at hS'
      have sm : Same H H' := Kp.same (Same.refl H) kp fun c e => e ▸ hS
      refine ⟨S, _, rfl, hS', fun q hq => k _ q (sm.new hq) upd_same (sm.free hq)⟩
/-- [one.number for one in ts if one is not None] -/
def numsR (st : List (Option Tx)) : List Int := (st.reverse.filterMap fun t => t.map (·.num))
def outerL (D : Db) : List Str := sortT (heldL D.rows (numsR D.stack.tail))
def ownL (D : Db) : List Str := sortT (heldL D.rows (numsR (D.stack.take 1)))
theorem nums_step {st : List (Option Tx)} {i : Nat} {t : Option Tx} (h : st.reverse[i]? = some t) : (st.reverse.take (i + 1)).filterMap (fun t => t.map (·.num)) = (st.reverse.take i).filterMap (fun t => t.map (·.num)) ++ (t.map (·.num)).toList := by
  rw [List.take_add_one, h, List.filterMap_append]
  cases t <;> rfl
theorem All2.rev {α β : Type} {R : α → β → Prop} {l : List α} {m : List β} (a : All2 R l m) : All2 R l.reverse m.reverse := by
  induction a with
  | nil => exact .nil
  | cons r _ ih => rw [List.reverse_cons, List.reverse_cons]; exact ih.snoc r
def spRecs (a : Ad) (f : Db → List Str) : Sp := fun vs H Q _ => ∃ L D, vs = [.ref L.db] ∧ DB a H L D ∧ Sm D ∧ ∀ H' q, Same H H' → H' q = some (.lst ((f D).map V.str)) → H q = none → Q (.ref q) H'
theorem ok_Database_outer_records (T : Txt K mg a d) : FnOk P w K mg base CX0 2 a.Database_outer_records d.Database_outer_records ["self"] (spRecs a outerL) := by
  have G_Database_held_by : FnOk P w K mg base CX0 1 a.Database_held_by d.Database_held_by ["self", "numbers"] (spHeldBy K a) := ok_Database_held_by T
  refine T.Database_outer_records.ok sc_Database_outer_records (fun vs H Q E h => ?_) (fun cdv A outer s H vs Q E hr h => ?_)
  · obtain ⟨L, D, rfl, _⟩ := h
    rfl
  · obtain ⟨L, D, rfl, hD, hm, k⟩ := h
    have c1 := T.k_Database
    have c2 := T.k_Transaction
    have n1 := T.na_Database_stack
    have n4 := T.na_Transaction_number
    have h1 := hD.db
    have h2 := hD.s
    obtain ⟨t0, ts, x0, st, et, es, a2⟩ : ∃ t0 ts x0 st, L.ts = t0 :: ts ∧ D.stack = x0 :: st ∧ All2 (TxAt a.Transaction H) ts st := by
      have hx := hD.txs
      have ne := hD.ne
      generalize L.ts = l at hx ⊢
      generalize D.stack = m at hx ne ⊢
      cases hx with
      | nil => exact absurd rfl ne
      | cons r t => exact ⟨_, _, _, _, rfl, rfl, t⟩
    have a3 := a2.rev
    have ol : outerL D = sortT (heldL D.rows (numsR st)) := by unfold outerL; rw [es]; rfl
    refine ⟨_, (pss_one (ps_ret (pe_meth (pv 0) T.k_Database T.m_Database_held_by G_Database_held_by (hr.mono (by decide)) T.b_Database_held_by .nil pass0 (pa_cons (pe_lc (own := [("one", 1)]) rfl sc_Database_outer_records.nd (pi_list (pe_slice sl_list (pe_fld (pv 0) rfl) po_none (po_some (pe_un un_neg pe_int)))) (blkOk_by (own := [("one", 1)]) (N := ["self", "one"]) (sc := defScope s_Database_outer_records) (by decide +kernel)) (fun _ _ _ _ _ => (pg_name (i := 1) sc_Database_outer_records.nd rfl (Or.inl rfl))) (fun _ _ _ _ _ => (pts_one (pt_cmpR op_notN (pv 1) pe_non (nomark _)))) (fun _ _ _ _ _ => (pe_fldK (K := K) rfl (pv 1) rfl))) pa_nil)))), ?_⟩
    dsimp only [cxOf]
    walk_at "rd"
    intro p1 f1
    rw [et, cut_rv]
    have s1 : Same H (upd H p1 (.lst (rv tV ts))) := (Same.refl H).new f1
    refine ⟨_, rfl, ⟨_, SqL.of upd_same⟩, ?_⟩
    intro S hS
    have s2 : Same H (upd (upd H p1 (.lst (rv tV ts))) S (.lst [])) := s1.new hS
    have nS : p1 ≠ S := ne_of_none upd_same hS
    refine lc_list (xs := rv tV ts) (fun i H' => Kp (fun b => b = S) (upd H p1 (.lst (rv tV ts))) H' ∧ H' S = some (.lst (((st.reverse.take i).filterMap fun t => t.map (·.num)).map V.int))) ?_ ?_ ?_ ?_
    · exact ⟨Kp.refl.fresh hS, upd_same⟩
    · rintro i H' _ ⟨kp, _⟩
      exact SqL.of (kp _ _ upd_same nS)
    · rintro i v H' hv ⟨kp, hS'⟩
      have hv' : ts.reverse.map tV = rv tV ts := by unfold rv; rw [List.map_reverse]
      rw [← hv', List.getElem?_map] at hv
      cases e : ts.reverse[i]? with
      | none => rw [e] at hv; cases hv
      | some t =>
        rw [e] at hv
        cases hv
        obtain ⟨x, hx, hxt⟩ := a3.get e
        have hst := nums_step hx
        cases t with
        | none =>
          cases x with
          | some x => exact hxt.elim
          | none =>
            walk_at "rd"
            try refine ⟨kp, ?_⟩
            rw [hst]
            simpa using hS'
        | some t =>
          cases x with
          | none => exact hxt.elim
          | some x =>
            obtain ⟨j1, _, _⟩ := hxt
            have hl : (((st.reverse.take i).filterMap fun t => t.map (·.num)).map V.int).length < sizeLine := by
              rw [List.length_map, sizeLine_eq]
              have h1 := List.length_filterMap_le (fun t : Option Tx => t.map (·.num)) (st.reverse.take i)
              have h2 := hm.s
              rw [es, List.length_cons] at h2
              rw [List.length_take, List.length_reverse] at h1
              omega
            have j2 := kp _ _ (s1 _ _ j1) (ne_of_none (s1 _ _ j1) hS)
            walk_at "rd"
            try refine ⟨kp.set1, ?_⟩
            rw [hst, List.map_append]
            exact upd_same
    · rintro H' ⟨kp, hS'⟩
      rw [rv_len, a2.len, ← List.length_reverse, List.take_length] at hS'
      have sm : Same H H' := Kp.same s1 kp fun c e => e ▸ s1.free hS
      have hx1 := sm _ _ h1
      walk_at "rd"
      exact ⟨L, D, S, numsR st, rfl, SqL.of hS', hD.keep (fun b u _ e => sm b u e), hm, fun H2 q s2 hq nq => k H2 q (sm.trans s2) (ol ▸ hq) (sm.free nq)⟩
theorem cut_last {α : Type} {f : α → V} {x : α} {l : List α} : cutV (rv f (x :: l)) (some (-1)) none = [f x] := by
  rw [rv_cons]
  show List.take (HT.sIx (rv f l ++ [f x]).length (rv f l ++ [f x]).length none - HT.sIx (rv f l ++ [f x]).length 0 (some (-1))) (List.drop (HT.sIx (rv f l ++ [f x]).length 0 (some (-1))) (rv f l ++ [f x])) = [f x]
  have e1 : HT.sIx (rv f l ++ [f x]).length 0 (some (-1)) = (rv f l).length := by
    unfold HT.sIx
    rw [List.length_append, List.length_singleton]
    simp only
    rw [if_pos (by decide)]
    omega
  have e2 : HT.sIx (rv f l ++ [f x]).length (rv f l ++ [f x]).length none = (rv f l).length + 1 := by
    unfold HT.sIx
    rw [List.length_append, List.length_singleton]
  rw [e1, e2, List.drop_left]
  simp
/-! ### writes -/
def spWrI (a : Ad) : Sp := fun vs H Q _ => ∃ (x dx : Addr) (r : Row), vs = [.ref x, .str r.rcd, r.val, .str r.fate, .int r.holder, .int r.level] ∧ H x = some (.ins a.Write dx []) ∧ Q .non (upd H x (.ins a.Write dx (rwF r)))
theorem upd_upd {H : Hp} {a : Addr} {o u : HO} : upd (upd H a o) a u = upd H a u := by
  funext b
  by_cases h : b = a
  · subst h
    rw [upd_same, upd_same]
  · rw [upd_ne h, upd_ne h, upd_ne h]
theorem ok_WriteU_initU (T : Txt K mg a d) : FnOk P w K mg base CX0 1 a.WriteU_initU d.WriteU_initU ["self", "record", "value", "fate", "holder", "level"] (spWrI a) := by
  refine T.WriteU_initU.ok sc_WriteU_initU (fun vs H Q E h => ?_) (fun cdv A outer s H vs Q E hr h => ?_)
  · obtain ⟨x, dx, r, rfl, _⟩ := h
    rfl
  · obtain ⟨x, dx, r, rfl, hx, k⟩ := h
    have c1 := T.k_Write
    have n1 := T.na_Write_record
    have n2 := T.na_Write_value
    have n3 := T.na_Write_fate
    have n4 := T.na_Write_holder
    have n5 := T.na_Write_level
    refine ⟨_, (pss_cons (ps_fld (pv 0) (pv 1) rfl)
  (pss_cons (ps_fld (pv 0) (pv 2) rfl)
  (pss_cons (ps_fld (pv 0) (pv 3) rfl)
  (pss_cons (ps_fld (pv 0) (pv 4) rfl)
  (pss_one (ps_fld (pv 0) (pv 5) rfl)))))), ?_⟩
    dsimp only [cxOf]
    walk_at "rd"
    rw [upd_upd, upd_upd, upd_upd, upd_upd]
    exact k
def spWait (a : Ad) : Sp := fun vs H Q _ => ∃ L D z, vs = [.ref L.db, .str z] ∧ DB a H L D ∧ Sm D ∧ ∀ H', Same H H' → Q (.bl (decide (z ∈ outerL D))) H'
theorem inV_strs {z : Str} {l : List Str} : inV (.str z) (l.map V.str) = decide (z ∈ l) := by
  unfold inV
  rw [List.any_map]
  induction l with
  | nil => rfl
  | cons n r ih =>
    rw [List.any_cons, ih]
    show ((n == z) || decide (z ∈ r)) = _
    by_cases h : n = z
    · subst h
      simp
    · have h' : ¬ z = n := fun q => h q.symm
      simp [h, h']
theorem flat_strs {l : List Str} : (l.map V.str).all flatV = true := by
  rw [List.all_map]
  exact List.all_eq_true.mpr fun _ _ => rfl
theorem ok_Database_would_wait (T : Txt K mg a d) : FnOk P w K mg base CX0 3 a.Database_would_wait d.Database_would_wait ["self", "record"] (spWait a) := by
  have G_Database_outer_records : FnOk P w K mg base CX0 2 a.Database_outer_records d.Database_outer_records ["self"] (spRecs a outerL) := ok_Database_outer_records T
  refine T.Database_would_wait.ok sc_Database_would_wait (fun vs H Q E h => ?_) (fun cdv A outer s H vs Q E hr h => ?_)
  · obtain ⟨L, D, z, rfl, _⟩ := h
    rfl
  · obtain ⟨L, D, z, rfl, hD, hm, k⟩ := h
    have h1 := hD.db
    refine ⟨_, (pss_one (ps_ret (pe_cmpR op_in_seq (pv 1) (pe_meth0 (pv 0) T.k_Database T.m_Database_outer_records G_Database_outer_records (hr.mono (by decide)) T.b_Database_outer_records .nil pass0) (by rfl)))), ?_⟩
    dsimp only [cxOf]
    walk_at "rd"
    refine ⟨L, D, rfl, hD, hm, fun H' q s' hq _ => ?_⟩
    refine ⟨q, _, rfl, .inl (SqL.of hq), rfl, flat_strs, ?_⟩
    rw [show (if false = true then !inV (V.str z) ((outerL D).map V.str) else inV (V.str z) ((outerL D).map V.str)) = inV (V.str z) ((outerL D).map V.str) from rfl, inV_strs]
    exact k H' s'
def addD (D : Db) (r : Row) : Db := { D with rows := D.rows ++ [r] }
def writeD (D : Db) (z : Str) (v : V) : Db × Option EK := match D.stack with
  | none :: _ => if z ∈ outerL D then (D, some (.waits z)) else (addD D ⟨z, v, "kept", -1, 0⟩, none)
  | some ⟨n, y :: rs⟩ :: _ => (match y with
    | some w => (D, some (.doomed w))
    | none => if z ∈ outerL D then (D, some (.waits z)) else (addD D ⟨z, v, "open", n, rs.length⟩, none))
  | _ => (D, none)
def spWrite (a : Ad) : Sp := fun vs H Q E => ∃ L D z v, vs = [.ref L.db, .str z, v] ∧ DB a H L D ∧ Sm D ∧ outE a (writeD D z v) H L Q E
theorem ok_Database_write (T : Txt K mg a d) : FnOk P w K mg base (L2.CX P w) 4 a.Database_write d.Database_write ["self", "record", "value"] (spWrite a) := by
  have G_Database_would_wait : FnOk P w K mg base CX0 3 a.Database_would_wait d.Database_would_wait ["self", "record"] (spWait a) := ok_Database_would_wait T
  have G_WriteU_initU : FnOk P w K mg base CX0 1 a.WriteU_initU d.WriteU_initU ["self", "record", "value", "fate", "holder", "level"] (spWrI a) := ok_WriteU_initU T
  refine T.Database_write.okX sc_Database_write (fun vs H Q E h => ?_) (fun cdv A outer s H vs Q E hr h => ?_)
  · obtain ⟨L, D, z, v, rfl, _⟩ := h
    rfl
  · obtain ⟨L, D, z, v, rfl, hD, hm, k⟩ := h
    have c1 := T.k_Database
    have c2 := T.k_Transaction
    have n1 := T.na_Database_stack
    have n2 := T.na_Database_rows
    have n3 := T.na_Transaction_reasons
    have n4 := T.na_Transaction_number
    have h1 := hD.db
    have h2 := hD.s
    have lr : (L.ws.map fun w => V.ref w.1).length < sizeLine := by
      rw [List.length_map, hD.rows.len, sizeLine_eq]
      have := hm.n
      omega
    refine ⟨_, (pss_cons (ps_set (i := 3) sc_Database_write.nd rfl (Or.inl rfl) (pe_ix ix_list (pe_fld (pv 0) rfl) (pe_un un_neg pe_int) (fun _ _ => rfl)))
  (pss_cons (ps_if (PW.pt (pw_and (pt_cmpR op_notN (pv 3) pe_non (nomark _)) (pw_and1 (pt_cmpR op_notN (pe_ix ix_list (pe_fld (pv 3) rfl) (pe_un un_neg pe_int) (fun _ _ => rfl)) pe_non (nomark _))))) (pss_one (ps_raise rfl (takes_of rfl rfl rfl rfl) (pmk_err T.e_Doomed T.g_Doomed T.n_super hr (pa_cons (pe_ix ix_list (pe_fld (pv 3) rfl) (pe_un un_neg pe_int) (fun _ _ => rfl)) pa_nil)))) pss_nil)
  (pss_cons (ps_if (pt_val (pe_meth (pv 0) T.k_Database T.m_Database_would_wait G_Database_would_wait (hr.mono (by decide)) T.b_Database_would_wait .nil pass0 (pa_cons (pv 1) pa_nil))) (pss_one (ps_raise rfl (takes_of rfl rfl rfl rfl) (pmk_err T.e_Waits T.g_Waits T.n_super hr (pa_cons (pv 1) pa_nil)))) pss_nil)
  (pss_one (ps_if (pt_cmpR op_isN (pv 3) pe_non (nomark _)) (pss_one (ps_expr (pe_bm PySem.F.plainAttrs_list PySem.F.slot_list_append PySem.F.type_list_append mt_append (pe_fld (pv 0) rfl) (pa_cons (pe_make T.mk_Write G_WriteU_initU (hr.mono (by decide)) (by rfl) T.g_Write T.b_WriteU_initU .nil pass0 (pa_cons (pv 1) (pa_cons (pv 2) (pa_cons pe_str (pa_cons (pe_un un_neg pe_int) (pa_cons pe_int pa_nil)))))) pa_nil)))) (pss_one (ps_expr (pe_bm PySem.F.plainAttrs_list PySem.F.slot_list_append PySem.F.type_list_append mt_append (pe_fld (pv 0) rfl) (pa_cons (pe_make T.mk_Write G_WriteU_initU (hr.mono (by decide)) (by rfl) T.g_Write T.b_WriteU_initU .nil pass0 (pa_cons (pv 1) (pa_cons (pv 2) (pa_cons pe_str (pa_cons (pe_fld (pv 3) rfl) (pa_cons (pe_op op_sub (pe_callB call_len_seq (by rfl) T.n_len PySem.boot_len (pa_cons (pe_fld (pv 3) rfl) pa_nil)) pe_int) pa_nil)))))) pa_nil))))))))), ?_⟩
    dsimp only [cxOf]
    unfold writeD at k
    -- the row made
    have mk : ∀ (r : Row) {H1 : Hp}, Same H H1 → outE a (addD D r, none) H L Q E → ∀ x dx, H1 x = none → H1 dx = none → dx ≠ x → Q .non (upd (upd (upd (upd H1 dx (HO.own x)) x (HO.ins a.Write dx [])) x (HO.ins a.Write dx (rwF r))) L.r (.lst ((L.ws.map fun w => V.ref w.1) ++ [.ref x]))) := fun r H1 s1 k x dx hx hdx nx => by
      have s2 : Same H (upd (upd (upd H1 dx (HO.own x)) x (HO.ins a.Write dx [])) x (HO.ins a.Write dx (rwF r))) := ((s1.new hdx).frsh (s1.free hx)).frsh (s1.free hx)
      have hD2 : DB a _ L D := hD.keep fun b u _ e => s2 b u e
      have hD3 := hD2.addRow (w := (x, dx)) (x := r) upd_same (hD.fresh (s1.free hx))
      have f3 := Fr.addRow (L := L) (w := (x, dx)) (o := .lst ((L.ws ++ [(x, dx)]).map fun w => .ref w.1)) (.of_same s2) (s1.free hx)
      have z := k _ _ hD3 f3
      rw [List.map_append] at z
      exact z
    rcases hD.top with ⟨ts, st, et, es⟩ | ⟨t, ts, x, st, y, rs, et, es, ex, h4, h5⟩
    · rw [es] at k
      rw [et] at h2
      have e1 := rv_at (f := tV) (x := none) (l := ts)
      walk_at "rd"
      refine ⟨L, D, z, rfl, hD, hm, fun H1 s1 => ?_⟩
      have hD1 : DB a H1 L D := hD.keep fun b u _ e => s1 b u e
      have j1 := hD1.db
      have j2 := hD1.r
      by_cases b1 : z ∈ outerL D
      · rw [if_pos b1] at k
        rw [decide_eq_true b1]
        walk_at "rd"
        exact k H1 L hD1 (Fr.same s1)
      · rw [if_neg b1] at k
        rw [decide_eq_false b1]
        walk_at "rd"
        intro x dx hx hdx nx
        refine ⟨x, dx, ⟨z, v, "kept", -1, 0⟩, rfl, upd_same, rfl, ?_⟩
        have q1 : upd (upd (upd H1 dx (HO.own x)) x (HO.ins a.Write dx [])) x (HO.ins a.Write dx (rwF ⟨z, v, "kept", -1, 0⟩)) L.r = some (.lst (L.ws.map fun w => .ref w.1)) := upd_oth (ne_of_none j2 hx) (upd_oth (ne_of_none j2 hx) (upd_old j2 hdx))
        refine ⟨L.r, _, _, rfl, rfl, q1, lr, mk _ s1 k x dx hx hdx nx⟩
    · obtain ⟨n, rs0⟩ := x
      dsimp only at ex
      subst ex
      rw [es] at k
      rw [et] at h2
      have e1 := rv_at (f := tV) (x := some t) (l := ts)
      have e2 := rv_at (f := oV) (x := y) (l := rs)
      cases y with
      | some y =>
        walk_at "rd"
        exact k H L hD Fr.refl
      | none =>
        walk_at "rd"
        refine ⟨L, D, z, rfl, hD, hm, fun H1 s1 => ?_⟩
        have hD1 : DB a H1 L D := hD.keep fun b u _ e => s1 b u e
        have j1 := hD1.db
        have j2 := hD1.r
        have j4 := s1 _ _ h4
        have j5 := s1 _ _ h5
        dsimp only at k
        by_cases b1 : z ∈ outerL D
        · rw [if_pos b1] at k
          rw [decide_eq_true b1]
          walk_at "rd"
          exact k H1 L hD1 (Fr.same s1)
        · rw [if_neg b1] at k
          rw [decide_eq_false b1]
          walk_at "rd"
          rw [rv_len]
          intro x dx hx hdx nx
          have el : ((none :: rs : List (Option Str)).length : Int) - 1 = (rs.length : Int) := by rw [List.length_cons]; omega
          refine ⟨x, dx, ⟨z, v, "open", n, rs.length⟩, ?_, upd_same, rfl, ?_⟩
          · show _ = [V.ref x, V.str z, v, V.str "open", V.int n, V.int (rs.length : Int)]
            rw [← el]; rfl
          have q1 : upd (upd (upd H1 dx (HO.own x)) x (HO.ins a.Write dx [])) x (HO.ins a.Write dx (rwF ⟨z, v, "open", n, rs.length⟩)) L.r = some (.lst (L.ws.map fun w => .ref w.1)) := upd_oth (ne_of_none j2 hx) (upd_oth (ne_of_none j2 hx) (upd_old j2 hdx))
          refine ⟨L.r, _, _, rfl, rfl, q1, lr, mk _ s1 k x dx hx hdx nx⟩
def setV (D : Db) (u v : V) : Db × Option EK := if wordB u = true then (match u with
  | .str z => writeD D z v
  | _ => (D, none)) else (D, some (.badword u))
theorem setV_word {D : Db} {z : Str} {v : V} (h : IsWord z) : setV D (.str z) v = writeD D z v := by
  unfold setV
  rw [if_pos (show wordB (.str z) = true from h.ok)]
def spSet (a : Ad) : Sp := fun vs H Q E => ∃ L D u v, vs = [.ref L.db, u, v] ∧ Thing H u ∧ DB a H L D ∧ Sm D ∧ outE a (setV D u v) H L Q E
theorem ok_DatabaseU_setitemU (T : Txt K mg a d) : FnOk P w K mg base (L2.CX P w) 5 a.DatabaseU_setitemU d.DatabaseU_setitemU ["self", "record", "value"] (spSet a) := by
  have G_is_word : FnOk P w K mg base CX0 1 a.is_word d.is_word ["thing"] spIsWord := ok_is_word T
  have G_Database_write : FnOk P w K mg base (L2.CX P w) 4 a.Database_write d.Database_write ["self", "record", "value"] (spWrite a) := ok_Database_write T
  refine T.DatabaseU_setitemU.okX sc_DatabaseU_setitemU (fun vs H Q E h => ?_) (fun cdv A outer s H vs Q E hr h => ?_)
  · obtain ⟨L, D, u, v, rfl, _⟩ := h
    rfl
  · obtain ⟨L, D, u, v, rfl, tu, hD, hm, k⟩ := h
    have h1 := hD.db
    refine ⟨_, (pss_cons (ps_if (pt_not (pt_val (pe_call G_is_word (hr.mono (by decide)) (by rfl) T.g_is_word T.is_word.kp T.b_is_word .nil pass0 (pa_cons (pv 1) pa_nil)))) (pss_one (ps_raise rfl (takes_of rfl rfl rfl rfl) (pmk_err T.e_BadWord T.g_BadWord T.n_super hr (pa_cons (pv 1) pa_nil)))) pss_nil)
  (pss_one (ps_expr (pe_meth (pv 0) T.k_Database T.m_Database_write G_Database_write (hr.mono (by decide)) T.b_Database_write .nil (passes_call (takes_of rfl rfl rfl rfl) (fun _ _ _ _ h => h)) (pa_cons (pv 1) (pa_cons (pv 2) pa_nil)))))), ?_⟩
    try dsimp only [cxOf]
    walk_at "rd"
    unfold setV at k
    cases bz : wordB u with
    | false =>
      rw [bz] at k
      refine iteT ?_
      walk_at "rd"
      exact k H L hD Fr.refl
    | true =>
      rw [bz, if_pos rfl] at k
      refine iteF ?_
      obtain ⟨z, rfl⟩ : ∃ z, u = .str z := by
        cases u <;> first | exact ⟨_, rfl⟩ | cases bz
      walk_at "rd"
      exact ⟨L, D, z, v, rfl, hD, hm, k⟩
/-! ### properties -/
def openD (D : Db) : Bool := match D.stack with
  | some _ :: _ => true
  | _ => false
def reasonD (D : Db) : Option Str := match D.stack with
  | some ⟨_, y :: _⟩ :: _ => y
  | _ => none
def levelsD (D : Db) : Nat := match D.stack with
  | some x :: _ => x.rs.length
  | _ => 0
def spProp (a : Ad) (f : Db → V) : Sp := fun vs H Q _ => ∃ L D, vs = [.ref L.db] ∧ DB a H L D ∧ Sm D ∧ Q (f D) H
theorem ok_Database_is_open (T : Txt K mg a d) : FnOk P w K mg base CX0 1 a.Database_is_open d.Database_is_open ["self"] (spProp a fun D => .bl (openD D)) := by
  refine T.Database_is_open.ok sc_Database_is_open (fun vs H Q E h => ?_) (fun cdv A outer s H vs Q E hr h => ?_)
  · obtain ⟨L, D, rfl, _⟩ := h
    rfl
  · obtain ⟨L, D, rfl, hD, hm, k⟩ := h
    have c1 := T.k_Database
    have n1 := T.na_Database_stack
    have h1 := hD.db
    have h2 := hD.s
    refine ⟨_, (pss_one (ps_ret (pe_cmpR op_notN (pe_ix ix_list (pe_fld (pv 0) rfl) (pe_un un_neg pe_int) (fun _ _ => rfl)) pe_non (nomark _)))), ?_⟩
    dsimp only [cxOf]
    unfold openD at k
    dsimp only at k
    rcases hD.top with ⟨ts, st, et, es⟩ | ⟨t, ts, x, st, y, rs, et, es, ex, h4, h5⟩
    · rw [es] at k
      rw [et] at h2
      have e1 := rv_at (f := tV) (x := none) (l := ts)
      walk_at "rd"
      exact k
    · rw [es] at k
      rw [et] at h2
      have e1 := rv_at (f := tV) (x := some t) (l := ts)
      walk_at "rd"
      exact k
theorem ok_Database_levels (T : Txt K mg a d) : FnOk P w K mg base CX0 1 a.Database_levels d.Database_levels ["self"] (spProp a fun D => .int (levelsD D : Int)) := by
  refine T.Database_levels.ok sc_Database_levels (fun vs H Q E h => ?_) (fun cdv A outer s H vs Q E hr h => ?_)
  · obtain ⟨L, D, rfl, _⟩ := h
    rfl
  · obtain ⟨L, D, rfl, hD, hm, k⟩ := h
    have c1 := T.k_Database
    have c2 := T.k_Transaction
    have n1 := T.na_Database_stack
    have n3 := T.na_Transaction_reasons
    have h1 := hD.db
    have h2 := hD.s
    refine ⟨_, (pss_one (ps_ret (pe_ifExp (pt_cmpR op_isN (pe_ix ix_list (pe_fld (pv 0) rfl) (pe_un un_neg pe_int) (fun _ _ => rfl)) pe_non (nomark _)) pe_int (pe_callB call_len_seq (by rfl) T.n_len PySem.boot_len (pa_cons (pe_fld (pe_ix ix_list (pe_fld (pv 0) rfl) (pe_un un_neg pe_int) (fun _ _ => rfl)) rfl) pa_nil))))), ?_⟩
    dsimp only [cxOf]
    unfold levelsD at k
    dsimp only at k
    rcases hD.top with ⟨ts, st, et, es⟩ | ⟨t, ts, x, st, y, rs, et, es, ex, h4, h5⟩
    · rw [es] at k
      rw [et] at h2
      have e1 := rv_at (f := tV) (x := none) (l := ts)
      walk_at "rd"
      exact iteT k
    · obtain ⟨n, rs0⟩ := x
      dsimp only at ex
      subst ex
      rw [es] at k
      rw [et] at h2
      have e1 := rv_at (f := tV) (x := some t) (l := ts)
      walk_at "rd"
      rw [rv_len]
      exact k
/-! ### fates -/
theorem All2.app {α β : Type} {R : α → β → Prop} {l l' : List α} {m m' : List β} (a : All2 R l m) (b : All2 R l' m') : All2 R (l ++ l') (m ++ m') := by
  induction a with
  | nil => exact b
  | cons r _ ih => exact .cons r ih
def TupAt (H : Hp) (t : Addr) (r : Row) : Prop := H t = some (.tup [.str r.rcd, r.val, .str r.fate])
def spFates (a : Ad) : SpG := fun vs H Q _ => ∃ L D, vs = [.ref L.db] ∧ DB a H L D ∧ Sm D ∧ ∀ H' ts, Same H H' → All2 (TupAt H') ts D.rows → Q (ts.map V.ref) H'
theorem ok_Database_fates (T : Txt K mg a d) : GFn P w K mg base 1 a.Database_fates d.Database_fates ["self"] (spFates a) := by
  refine fun_gen T.Database_fates sc_Database_fates (fun vs H Q E h => ?_) (fun cdv A outer s H vs Q E pn hr h => ?_)
  · obtain ⟨L, D, rfl, _⟩ := h
    rfl
  · obtain ⟨L, D, rfl, hD, hm, k⟩ := h
    have c1 := T.k_Database
    have c3 := T.k_Write
    have n2 := T.na_Database_rows
    have h1 := hD.db
    have h2 := hD.r
    refine ⟨_, (gss_cons (gs_for owns_gcx rfl (pi_list (pe_fld (pv 0) rfl)) (pg_name (i := 1) sc_Database_fates.nd rfl (Or.inl rfl)) (gss_cons (gs_yield (pe_tup (pa_cons (pe_fld (pv 1) rfl) (pa_cons (pe_fld (pv 1) rfl) (pa_cons (pe_fld (pv 1) rfl) pa_nil))))) gss_nil)) gss_nil), ?_⟩
    dsimp only [gcxOf, cxOf]
    have n5 := T.na_Write_fate
    have n7 := T.na_Write_record
    have n8 := T.na_Write_value
    walk_at "rd"
    refine ⟨⟨_, SqL.of h2⟩, ?_⟩
    have hlw : L.ws.length = D.rows.length := hD.rows.len
    refine gfor_list (xs := L.ws.map fun w => V.ref w.1) (fun i ys σ H' => ∃ ts v, Same H H' ∧ All2 (TupAt H') ts (D.rows.take i) ∧ ys = ts.map V.ref ∧ σ = [some (.ref L.db), v]) ?_ ?_ ?_ ?_
    · exact ⟨[], none, Same.refl H, .nil, rfl, rfl⟩
    · rintro i ys σ H' _ ⟨ts, v, s1, _, _, _⟩
      exact SqL.of (s1 _ _ h2)
    · rintro i x ys σ H' hv ⟨ts, v, s1, ha, rfl, rfl⟩
      obtain ⟨w', hw, rfl⟩ := map_ref hv
      obtain ⟨r, hr, hxw⟩ := hD.rows.get hw
      have hxw : H w'.1 = some (.ins a.Write w'.2 (rwF r)) := hxw
      have hx' := s1 _ _ hxw
      have hl : ts.length ≤ 4000 := by
        rw [ha.len, List.length_take]
        have := hm.n
        omega
      refine ⟨by rw [List.length_map, sizeLine_eq]; omega, ?_⟩
      walk_at "rd"
      intro t ht
      refine ⟨ts ++ [t], _, s1.new ht, ?_, ?_, rfl⟩
      · rw [List.take_add_one, hr]
        refine All2.app (ha.imp fun x y _ z => upd_old z ht) (.cons upd_same .nil)
      · rw [List.map_append]; rfl
    · rintro ys σ H' ⟨ts, v, s1, ha, rfl, _⟩
      rw [List.length_map, hlw, List.take_length] at ha
      exact k H' ts s1 ha
/-! ### _law_fates -/
def fatesOf (rows : List Row) (rs : List Str) : List Str := (rows.filter fun r => decide (r.rcd ∈ rs)).map (·.fate)
theorem fatesOf_step {rows : List Row} {rs : List Str} {i : Nat} {r : Row} (h : rows[i]? = some r) : fatesOf (rows.take (i + 1)) rs = fatesOf (rows.take i) rs ++ (if decide (r.rcd ∈ rs) = true then [r.fate] else []) := by
  unfold fatesOf
  rw [List.take_add_one, h, List.filter_append, List.map_append]
  congr 1
  show List.map _ (List.filter _ [r]) = _
  rw [List.filter_cons]
  split <;> rfl
theorem fatesOf_len (rows : List Row) (rs : List Str) : (fatesOf rows rs).length ≤ rows.length := by
  unfold fatesOf
  rw [List.length_map]
  exact List.length_filter_le _ _
theorem map_ref0 {l : List Addr} {i : Nat} {v : V} (h : (l.map V.ref)[i]? = some v) : ∃ t, l[i]? = some t ∧ v = V.ref t := by
  rw [List.getElem?_map] at h
  cases e : l[i]? with
  | none => rw [e] at h; cases h
  | some t =>
    rw [e] at h
    cases h
    exact ⟨t, rfl, rfl⟩
def spLF (a : Ad) : Sp := fun vs H Q _ => ∃ L D q, ∃ rs : List Str, vs = [.ref L.db, .ref q] ∧ DB a H L D ∧ Sm D ∧ H q = some (.lst (rs.map V.str)) ∧ ∀ H' p, Same H H' → H' p = some (.lst ((fatesOf D.rows rs).map V.str)) → H p = none → Q (.ref p) H'
theorem ok_law_fates (T : Txt K mg a d) : FnOk P w K mg base CX0 5 a.law_fates d.law_fates ["_law_db", "_law_records"] (spLF a) := by
  have G_Database_fates : GFn P w K mg base 1 a.Database_fates d.Database_fates ["self"] (spFates a) := ok_Database_fates T
  refine T.law_fates.ok sc_law_fates (fun vs H Q E h => ?_) (fun cdv A outer s H vs Q E hr h => ?_)
  · obtain ⟨L, D, q, rs, rfl, _⟩ := h
    rfl
  · obtain ⟨L, D, q, rs, rfl, hD, hm, hq, k⟩ := h
    have h1 := hD.db
    refine ⟨_, (pss_one (ps_ret (pe_lc (own := [("_law_row", 2)]) rfl sc_law_fates.nd (pi_list (pe_listG (pgen_meth0 (pv 0) T.k_Database T.m_Database_fates G_Database_fates (hr.mono (by decide)) T.b_Database_fates .nil) passL noStop0 (hr.mono (by decide)) (by rfl) T.n_list (by decide +kernel))) (blkOk_by (own := [("_law_row", 2)]) (N := ["_law_db", "_law_records", "_law_row"]) (sc := defScope s_law_fates) (by decide +kernel)) (fun _ _ _ _ _ => (pg_name (i := 2) sc_law_fates.nd rfl (Or.inl rfl))) (fun _ _ _ _ _ => (pts_one (pt_cmpR (op_inK (K := K) rfl) (pe_ix (ix_tupK (K := K) rfl) (pv 2) pe_int (fun _ _ => rfl)) (pv 1) (by rfl)))) (fun _ _ _ _ _ => (pe_ix (ix_tupK (K := K) rfl) (pv 2) pe_int (fun _ _ => rfl)))))), ?_⟩
    dsimp only [cxOf]
    walk_at "rd"
    refine ⟨L, D, rfl, hD, hm, fun H1 ts s1 ha => ?_⟩
    intro p1 g1
    have sl : Same H (upd H1 p1 (.lst (ts.map V.ref))) := s1.new g1
    have hp1 := upd_same (H := H1) (a := p1) (o := .lst (ts.map V.ref))
    have ha2 : All2 (TupAt (upd H1 p1 (.lst (ts.map V.ref)))) ts D.rows := ha.imp fun x y _ z => upd_old z g1
    generalize upd H1 p1 (.lst (ts.map V.ref)) = H2 at sl hp1 ha2 ⊢
    refine ⟨p1, rfl, ⟨_, SqL.of hp1⟩, ?_⟩
    intro S hS
    have hq2 := sl _ _ hq
    refine lc_list (xs := ts.map V.ref) (fun i H' => Same H2 H' ∧ H' S = some (.lst ((fatesOf (D.rows.take i) rs).map V.str))) ?_ ?_ ?_ ?_
    · exact ⟨(Same.refl H2).new hS, upd_same⟩
    · rintro i H' _ ⟨s3, _⟩
      exact SqL.of (s3 _ _ hp1)
    · rintro i v H' hv ⟨s3, hS'⟩
      obtain ⟨t, ht, rfl⟩ := map_ref0 hv
      obtain ⟨r, hr, htr⟩ := ha2.get ht
      have ht3 : H' t = some (.tup [.str r.rcd, r.val, .str r.fate]) := s3 _ _ htr
      have hq3 := s3 _ _ hq2
      have i0 : atI [V.str r.rcd, r.val, V.str r.fate] 0 = some (V.str r.rcd) := rfl
      have i2 : atI [V.str r.rcd, r.val, V.str r.fate] 2 = some (V.str r.fate) := rfl
      rw [fatesOf_step hr]
      refine ⟨rfl, ?_⟩
      have hl : (fatesOf (D.rows.take i) rs).length < sizeLine := by
        rw [sizeLine_eq]
        have h1 := fatesOf_len (D.rows.take i) rs
        have h2 : (D.rows.take i).length ≤ D.rows.length := by rw [List.length_take]; omega
        have h3 := hm.n
        omega
      walk_at "rd"
      refine ⟨flat_strs, ?_⟩
      rw [show (if false = true then !inV (V.str r.rcd) (rs.map V.str) else inV (V.str r.rcd) (rs.map V.str)) = inV (V.str r.rcd) (rs.map V.str) from rfl, inV_strs]
      by_cases b : r.rcd ∈ rs
      · rw [decide_eq_true b]
        refine ⟨_, rfl, ?_⟩
        rw [if_pos rfl]
        refine iteT ?_
        have hl2 : ((fatesOf (D.rows.take i) rs).map V.str).length < sizeLine := by rw [List.length_map]; exact hl
        walk_at "rd"
        have z : Same H2 (upd H' S (.lst ((fatesOf (D.rows.take i) rs).map V.str ++ [.str r.fate]))) ∧ upd H' S (.lst ((fatesOf (D.rows.take i) rs).map V.str ++ [.str r.fate])) S = some (.lst ((fatesOf (D.rows.take i) rs ++ [r.fate]).map V.str)) := by
          refine ⟨s3.frsh hS, ?_⟩
          rw [upd_same, List.map_append]; rfl
        first
          | exact z
          | exact z.2
      · rw [decide_eq_false b]
        refine ⟨_, rfl, ?_⟩
        rw [if_neg Bool.false_ne_true, List.append_nil]
        exact iteF ⟨s3, hS'⟩
    · rintro H' ⟨s3, hS'⟩
      rw [List.length_map, ha2.len, List.take_length] at hS'
      exact k H' S (sl.trans s3) hS' (sl.free hS)
/-! ### the state of the law -/
structure K10 (a : Ad) (H0 : Hp) (pp x qa qb : Addr) (H : Hp) (L : Lay) (D : Db) (ra rb : List Str) (c : Nat) : Prop where
  same : Same H0 H
  pool : ∃ o, H pp = some o ∧ PoolO o c
  dat : DB a H L D
  ed : L.db = x
  la : H qa = some (.lst (ra.map V.str))
  lb : H qb = some (.lst (rb.map V.str))
  nab : qa ≠ qb
  fre : ∀ b, (b = pp ∨ Mut L b ∨ b = qa ∨ b = qb) → H0 b = none
  d1 : ∀ b, (b = qa ∨ b = qb) → ¬ Mut L b ∧ b ≠ pp
  d2 : ¬ Mut L pp
section
variable {a : Ad} {H0 H H' : Hp} {pp x qa qb : Addr} {L : Lay} {D : Db} {ra rb : List Str} {c : Nat}
theorem PoolO.notIns {o : HO} {c : Nat} (h : PoolO o c) {C dx : Addr} {fs : List (Str × V)} : o ≠ .ins C dx fs := by
  obtain ⟨x, y, z, e, _⟩ := h
  rw [e]
  exact fun z => by cases z
theorem DbAt.kpS {S : Addr → Prop} {aD aT aW : Addr} (h : DbAt aD aT aW H L D) (k : Kp S H H') (n : ∀ b, S b → ¬ Mut L b ∧ ∀ C dx fs, H b ≠ some (.ins C dx fs)) : DbAt aD aT aW H' L D := by
  refine h.keep fun b u f e => k b u e fun z => ?_
  rcases f with f | ⟨t, m, rfl⟩
  · exact (n b z).1 f
  · obtain ⟨x, h1, _⟩ := h.tx m
    exact (n _ z).2 _ _ _ h1
theorem K10.swap (h : K10 a H0 pp x qa qb H L D ra rb c) : K10 a H0 pp x qb qa H L D rb ra c :=
  ⟨h.same, h.pool, h.dat, h.ed, h.lb, h.la, Ne.symm h.nab, fun b hb => h.fre b (hb.imp id (Or.imp id Or.symm)), fun b hb => h.d1 b hb.symm, h.d2⟩
theorem K10.draw {o' : HO} {c' : Nat} (h : K10 a H0 pp x qa qb H L D ra rb c) (k : Kp (fun b => b = pp) H H') (hp : H' pp = some o') (ho : PoolO o' c') : K10 a H0 pp x qa qb H' L D ra rb c' := by
  obtain ⟨o, h1, h2⟩ := h.pool
  refine ⟨Kp.same h.same k fun b e => h.fre b (.inl e), ⟨o', hp, ho⟩, h.dat.kpS k fun b e => ⟨e ▸ h.d2, fun C dx fs z => ?_⟩, h.ed, k _ _ h.la (h.d1 qa (.inl rfl)).2, k _ _ h.lb (h.d1 qb (.inr rfl)).2, h.nab, h.fre, h.d1, h.d2⟩
  rw [e, h1] at z
  exact h2.notIns (Option.some.inj z)
theorem K10.keep (h : K10 a H0 pp x qa qb H L D ra rb c) (k : Same H H') : K10 a H0 pp x qa qb H' L D ra rb c := by
  obtain ⟨o, h1, h2⟩ := h.pool
  exact ⟨h.same.trans k, ⟨o, k _ _ h1, h2⟩, h.dat.keep fun b u _ e => k b u e, h.ed, k _ _ h.la, k _ _ h.lb, h.nab, h.fre, h.d1, h.d2⟩
theorem K10.up {c' : Nat} (h : K10 a H0 pp x qa qb H L D ra rb c) (k : c ≤ c') : K10 a H0 pp x qa qb H L D ra rb c' := by
  obtain ⟨o, h1, h2⟩ := h.pool
  exact { h with pool := ⟨o, h1, h2.mono k⟩ }
theorem K10.db {L' : Lay} {D' : Db} (h : K10 a H0 pp x qa qb H L D ra rb c) (hD : DB a H' L' D') (f : Fr H H' L L') : K10 a H0 pp x qa qb H' L' D' ra rb c := by
  obtain ⟨o, h1, h2⟩ := h.pool
  refine ⟨fun b u e => f.kp b u (h.same b u e) fun z => ?_, ⟨o, f.kp _ _ h1 h.d2, h2⟩, hD, f.db.trans h.ed, f.kp _ _ h.la (h.d1 qa (.inl rfl)).1, f.kp _ _ h.lb (h.d1 qb (.inr rfl)).1, h.nab, fun b hb => ?_, fun b hb => ⟨?_, (h.d1 b hb).2⟩, f.out h1 h.d2⟩
  · rw [h.fre b (.inr (.inl z))] at e; cases e
  · rcases hb with hb | hb | hb
    · exact h.fre b (.inl hb)
    · rcases f.mt b hb with z | z
      · exact h.fre b (.inr (.inl z))
      · exact h.same.free z
    · exact h.fre b (.inr (.inr hb))
  · rcases hb with rfl | rfl
    · exact f.out h.la (h.d1 _ (.inl rfl)).1
    · exact f.out h.lb (h.d1 _ (.inr rfl)).1
theorem K10.push {z : Str} (h : K10 a H0 pp x qa qb H L D ra rb c) : K10 a H0 pp x qa qb (upd H qa (.lst (ra.map V.str ++ [.str z]))) L D (ra ++ [z]) rb c := by
  obtain ⟨o, h1, h2⟩ := h.pool
  have k : Kp (fun b => b = qa) H (upd H qa (.lst (ra.map V.str ++ [.str z]))) := Kp.refl.set1
  refine ⟨Kp.same h.same k fun b e => h.fre b (.inr (.inr (.inl e))), ⟨o, k _ _ h1 fun e => (h.d1 qa (.inl rfl)).2 e.symm, h2⟩, h.dat.kpS k fun b e => ⟨e ▸ (h.d1 qa (.inl rfl)).1, fun C dx fs y => ?_⟩, h.ed, ?_, k _ _ h.lb (Ne.symm h.nab), h.nab, h.fre, h.d1, h.d2⟩
  · rw [e, h.la] at y; cases y
  · rw [upd_same, List.map_append]; rfl
end
/-! ### the law writes -/
def pfx (pre z : Str) : Prop := ∃ r : List Nat, z.cps.toList = pre.cps.toList ++ r
theorem cut7 (w : Str) (h : Lets w.cps.toList) : (cutS w none (some 7)).cps.toList.length ≤ 7 ∧ Lets (cutS w none (some 7)).cps.toList := by
  have e : (cutS w none (some 7)).cps.toList = (w.cps.toList.drop (HT.sIx w.length 0 none)).take (HT.sIx w.length w.length (some 7) - HT.sIx w.length 0 none) := by
    unfold cutS
    simp
  have b : HT.sIx w.length w.length (some 7) ≤ 7 := by
    unfold HT.sIx
    simp only
    split <;> omega
  rw [e]
  refine ⟨?_, fun c hc => h c (List.mem_of_mem_drop (List.mem_of_mem_take hc))⟩
  rw [List.length_take]
  omega
theorem app_cps (x y : Str) : (x ++ y).cps.toList = x.cps.toList ++ y.cps.toList := by
  show (x.cps ++ y.cps).toList = _
  simp
theorem pre_word {pre w : Str} (hp : IsWord pre) (h1 : pre.length = 1) (hw : IsWord w) : IsWord (pre ++ cutS w none (some 7)) ∧ pfx pre (pre ++ cutS w none (some 7)) := by
  obtain ⟨c1, c2⟩ := cut7 w hw.al
  refine ⟨⟨?_, ?_, ?_⟩, _, app_cps _ _⟩
  · rw [app_cps, List.length_append, len_toList pre]; omega
  · rw [app_cps, List.length_append, len_toList pre]; omega
  · rw [app_cps]
    intro c hc
    rcases List.mem_append.mp hc with hc | hc
    · exact hp.al c hc
    · exact c2 c hc
def freeD (D : Db) : Prop := ∀ x st, D.stack = some x :: st → ∃ rs, x.rs = none :: rs
def spW10 (a : Ad) : Sp := fun vs H Q _ => ∃ H0 pp x qa qb L D ra rb c pre, vs = [.ref pp, .ref x, .ref qa, .str pre] ∧ IsWord pre ∧ pre.length = 1 ∧ K10 a H0 pp x qa qb H L D ra rb c ∧ Sm D ∧ D.stack ≠ [] ∧ freeD D ∧ (∀ z, pfx pre z → z ∉ outerL D) ∧ ra.length ≤ 3000 ∧ c < 2 ^ 31 ∧
  ∀ H' L' z i, IsWord z → pfx pre z → K10 a H0 pp x qa qb H' L' (writeD D z (.int i)).1 (ra ++ [z]) rb (c + 12) → Q .non H'
theorem ok_law_write (T : Txt K mg a d) : FnOk P w K mg base CX0 6 a.law_write d.law_write ["_law_pool_here", "_law_db", "_law_records", "_law_prefix"] (spW10 a) := by
  have G_law_draw : FnOk P w K mg base CX0 1 a.law_draw d.law_draw ["_law_pool_here", "_law_many"] spDraw := ok_law_draw T
  have G_law_word : FnOk P w K mg base CX0 2 a.law_word d.law_word ["_law_pool_here"] spWord := ok_law_word T
  have G_DatabaseU_setitemU : FnOk P w K mg base (L2.CX P w) 5 a.DatabaseU_setitemU d.DatabaseU_setitemU ["self", "record", "value"] (spSet a) := ok_DatabaseU_setitemU T
  refine T.law_write.ok sc_law_write (fun vs H Q E h => ?_) (fun cdv A outer s H vs Q E hr h => ?_)
  · obtain ⟨H0, pp, x, qa, qb, L, D, ra, rb, c, pre, rfl, _⟩ := h
    rfl
  · obtain ⟨H0, pp, x, qa, qb, L, D, ra, rb, c, pre, rfl, hpw, hp1, I, hm, hne, hfr, hno, hra, hc, k⟩ := h
    refine ⟨_, (pss_cons (ps_set (i := 4) sc_law_write.nd rfl (Or.inl rfl) (pe_op op_add_str (pv 3) (pe_slice sl_str (pe_call G_law_word (hr.mono (by decide)) (by rfl) T.g_law_word T.law_word.kp T.b_law_word .nil pass0 (pa_cons (pv 0) pa_nil)) po_none (po_some pe_int))))
  (pss_cons (ps_asg (pe_call G_law_draw (hr.mono (by decide)) (by rfl) T.g_law_draw T.law_draw.kp T.b_law_draw .nil pass0 (pa_cons (pv 0) (pa_cons (pe_op op_pow pe_int pe_int) pa_nil))) (pg_setO (pv 1) (pv 4) T.m_DatabaseU_setitemU T.ns_Database G_DatabaseU_setitemU (hr.mono (by decide)) T.b_DatabaseU_setitemU (fun _ => passL0)))
  (pss_one (ps_expr (pe_bm PySem.F.plainAttrs_list PySem.F.slot_list_append PySem.F.type_list_append mt_append (pv 2) (pa_cons (pv 4) pa_nil)))))), ?_⟩
    dsimp only [cxOf]
    obtain ⟨o0, hp0, ho0⟩ := I.pool
    walk_at "rd"
    intro w4 o4 H4 hw h4 hp4 kp4
    have I4 := I.draw kp4 hp4 h4
    obtain ⟨wz, wp⟩ := pre_word hpw hp1 hw
    have l4 : w4.length ≤ sizeLine := by rw [← len_toList, sizeLine_eq]; have := hw.hi; omega
    have l5 : pre.length + (cutS w4 none (some 7)).length ≤ sizeLine := by
      have := (cut7 w4 hw.al).1
      rw [len_toList] at this
      rw [hp1, sizeLine_eq]; omega
    walk_at "rd"
    generalize pre ++ cutS w4 none (some 7) = z at wz wp ⊢
    walk_at "rd"
    intro r5 o5 r50 r51 h5
    have I5 := I4.draw (o' := o5) Kp.refl.set1 upd_same h5
    generalize upd H4 pp o5 = H5 at I5 ⊢
    have hx := I5.dat.db
    rw [I5.ed] at hx
    walk_at "rd"
    have eW : writeD D z (.int r5) = ((writeD D z (.int r5)).1, none) := by
      have b1 := hno z wp
      unfold writeD
      cases es : D.stack with
      | nil => exact absurd es hne
      | cons t st =>
        cases t with
        | none =>
          dsimp only
          rw [if_neg b1]
        | some y =>
          obtain ⟨rs, ey⟩ := hfr y st es
          obtain ⟨n, rs0⟩ := y
          dsimp only at ey
          subst ey
          dsimp only
          rw [if_neg b1]
    refine ⟨L, D, .str z, .int r5, by rw [I5.ed], word_thing wz, I5.dat, hm, fun H6 L6 hD6 f6 => ?_⟩
    rw [setV_word wz] at hD6 ⊢
    have I6 := I5.db hD6 f6
    rw [eW]
    have l6 := I6.la
    have l7 : (ra.map V.str).length < sizeLine := by rw [List.length_map, sizeLine_eq]; omega
    walk_at "rd"
    exact k _ L6 z r5 wz wp (I6.push.up (by omega))
/-! ### plain: the blocks around -/
structure A10 (D : Db) (n : Nat) : Prop where
  wf : Wf D.entered D.stack
  fl : D.floor = 0
  e : D.entered.length ≤ n
  lt : ∀ x, some x ∈ D.stack → x.num < D.opened
  dist : D.stack.Pairwise fun s t => ∀ x y, s = some x → t = some y → x.num ≠ y.num
  w : ∀ x, some x ∈ D.stack → ∀ y ∈ x.rs, y = none
  op : 0 ≤ D.opened
theorem Wf.len10 {es : List Str} {st : List (Option Tx)} (h : Wf es st) : st.length ≤ es.length + 1 ∧ ∀ x, some x ∈ st → x.rs.length ≤ es.length ∧ x.rs ≠ [] := by
  induction h with
  | nil => exact ⟨by simp, fun x m => by simp at m⟩
  | plain h ih =>
    refine ⟨by simp only [List.length_cons] at ih ⊢; omega, fun x m => ?_⟩
    obtain ⟨h1, h2⟩ := ih.2 x m
    exact ⟨by simp only [List.length_cons]; omega, h2⟩
  | base h ih =>
    refine ⟨by simp only [List.length_cons]; omega, fun x m => ?_⟩
    rcases List.mem_cons.mp m with e | m
    · cases e
      exact ⟨by simp, by simp⟩
    · obtain ⟨h1, h2⟩ := ih.2 x m
      exact ⟨by simp only [List.length_cons]; omega, h2⟩
  | level h ih =>
    refine ⟨by simp only [List.length_cons] at ih ⊢; omega, fun x m => ?_⟩
    rcases List.mem_cons.mp m with e | m
    · cases e
      have := (ih.2 _ List.mem_cons_self).1
      exact ⟨by simp only [List.length_cons] at this ⊢; omega, by simp⟩
    · obtain ⟨h1, h2⟩ := ih.2 x (List.mem_cons_of_mem _ m)
      exact ⟨by simp only [List.length_cons]; omega, h2⟩
  | joined h ih =>
    refine ⟨by simp only [List.length_cons] at ih ⊢; omega, fun x m => ?_⟩
    obtain ⟨h1, h2⟩ := ih.2 x m
    exact ⟨by simp only [List.length_cons]; omega, h2⟩
  | outside h ih =>
    refine ⟨by simp only [List.length_cons] at ih ⊢; omega, fun x m => ?_⟩
    rcases List.mem_cons.mp m with e | m
    · cases e
    · obtain ⟨h1, h2⟩ := ih.2 x m
      exact ⟨by simp only [List.length_cons]; omega, h2⟩
section
variable {D : Db} {n : Nat}
theorem A10.sm (g : A10 D n) (h : n ≤ 3000) (hr : D.rows.length ≤ 4000) : Sm D := by
  have := g.e
  obtain ⟨h1, h2⟩ := g.wf.len10
  exact ⟨by omega, by omega, fun x hx => by have := (h2 x hx).1; omega, hr⟩
theorem A10.begin (g : A10 D n) : A10 (beginD D) (n + 1) := by
  refine ⟨.base g.wf, g.fl, Nat.succ_le_succ g.e, fun x hx => ?_, ?_, fun x hx y hy => ?_, ?_⟩
  · show x.num < D.opened + 1
    rcases List.mem_cons.mp hx with e | e
    · cases e
      show D.opened < D.opened + 1
      omega
    · have := g.lt x e
      omega
  · refine List.pairwise_cons.mpr ⟨fun t ht x y e1 e2 => ?_, g.dist⟩
    cases e1
    subst e2
    have := g.lt y ht
    exact fun z => by
      have z : D.opened = y.num := z
      omega
  · rcases List.mem_cons.mp hx with e | e
    · cases e
      exact List.mem_singleton.mp hy
    · exact g.w x e y hy
  · have := g.op
    show 0 ≤ D.opened + 1
    omega
theorem A10.plain (g : A10 D n) {z : Str} (h : Wf (z :: D.entered) D.stack) : A10 (plainD D z) (n + 1) := ⟨h, g.fl, Nat.succ_le_succ g.e, g.lt, g.dist, g.w, g.op⟩
theorem A10.level {k : Int} {rs : List (Option Str)} {st : List (Option Tx)} (g : A10 D n) (e1 : D.stack = some ⟨k, none :: rs⟩ :: st) : A10 (plainD { D with stack := some ⟨k, none :: none :: rs⟩ :: st } "level") (n + 1) := by
  have wf := g.wf
  have lt := g.lt
  have di := g.dist
  have w := g.w
  rw [e1] at wf lt di w
  refine ⟨.level wf, g.fl, Nat.succ_le_succ g.e, fun x hx => ?_, ?_, fun x hx y hy => ?_, g.op⟩
  · rcases List.mem_cons.mp hx with e | e
    · cases e
      exact lt ⟨k, none :: rs⟩ List.mem_cons_self
    · exact lt x (List.mem_cons_of_mem _ e)
  · obtain ⟨d1, d2⟩ := List.pairwise_cons.mp di
    refine List.pairwise_cons.mpr ⟨fun t ht x y e1 e2 => ?_, d2⟩
    cases e1
    exact d1 t ht ⟨k, none :: rs⟩ y rfl e2
  · rcases List.mem_cons.mp hx with e | e
    · cases e
      rcases List.mem_cons.mp hy with rfl | hy
      · rfl
      · exact w ⟨k, none :: rs⟩ List.mem_cons_self y hy
    · exact w x (List.mem_cons_of_mem _ e) y hy
theorem A10.outside {x : Tx} {st : List (Option Tx)} (g : A10 D n) (e1 : D.stack = some x :: st) : A10 (plainD { D with stack := none :: D.stack } "outside") (n + 1) := by
  have wf := g.wf
  rw [e1] at wf
  refine ⟨?_, g.fl, Nat.succ_le_succ g.e, fun y hy => ?_, List.pairwise_cons.mpr ⟨(fun t ht x y a => nomatch a), g.dist⟩, fun y hy => ?_, g.op⟩
  · show Wf ("outside" :: D.entered) (none :: D.stack)
    rw [e1]
    exact .outside wf
  · rcases List.mem_cons.mp hy with e | e
    · cases e
    · exact g.lt y e
  · rcases List.mem_cons.mp hy with e | e
    · cases e
    · exact g.w y e
theorem A10.top (g : A10 D n) : (∃ st, D.stack = none :: st) ∨ ∃ k rs st, D.stack = some ⟨k, none :: rs⟩ :: st := by
  have ne := g.wf.ne
  have w := g.w
  have l2 := g.wf.len10.2
  generalize D.stack = s at ne w l2
  cases s with
  | nil => exact absurd rfl ne
  | cons t st =>
    cases t with
    | none => exact .inl ⟨st, rfl⟩
    | some x =>
      obtain ⟨k, rs⟩ := x
      cases rs with
      | nil => exact absurd rfl (l2 _ List.mem_cons_self).2
      | cons y rs =>
        cases w _ List.mem_cons_self y List.mem_cons_self
        exact .inr ⟨k, rs, st, rfl⟩
def inOk : List Str := ["join", "inner", "apart", "must", "either", "outside"]
def outOk : List Str := ["join", "inner", "apart", "either", "never", "outside", "alone"]
theorem A10.enters (g : A10 D n) {m : Str} (hm : (openD D = true ∧ m ∈ inOk) ∨ (openD D = false ∧ m ∈ outOk)) : (enterD D m).2 = none ∧ A10 (enterD D m).1 (n + 1) ∧ (enterD D m).1.rows = D.rows := by
  rcases g.top with ⟨st, e1⟩ | ⟨k, rs, st, e1⟩
  · have eD : enterD D m = aloneD D m := by unfold enterD; rw [e1]
    have eo : openD D = false := by unfold openD; rw [e1]
    rcases hm with ⟨q, _⟩ | ⟨_, hm⟩
    · rw [eo] at q; cases q
    have gp : A10 (plainD D "plain") (n + 1) := g.plain (by have := g.wf; rw [e1] at this ⊢; exact .plain this)
    have gb := g.begin
    rw [eD]
    simp only [outOk, List.mem_cons, List.not_mem_nil, or_false] at hm
    rcases hm with rfl | rfl | rfl | rfl | rfl | rfl | rfl
    all_goals first
      | exact ⟨rfl, gb, rfl⟩
      | exact ⟨rfl, gp, rfl⟩
  · have eD : enterD D m = lvlD D m k none rs st := by unfold enterD; rw [e1]
    have eo : openD D = true := by unfold openD; rw [e1]
    rcases hm with ⟨_, hm⟩ | ⟨q, _⟩
    · have gj : A10 (plainD D "joined") (n + 1) := g.plain (by have := g.wf; rw [e1] at this ⊢; exact .joined this)
      have gb := g.begin
      have gl := g.level e1
      have go := g.outside e1
      rw [eD]
      simp only [inOk, List.mem_cons, List.not_mem_nil, or_false] at hm
      rcases hm with rfl | rfl | rfl | rfl | rfl | rfl
      all_goals first
        | exact ⟨rfl, gj, rfl⟩
        | exact ⟨rfl, gl, rfl⟩
        | exact ⟨rfl, gb, rfl⟩
        | exact ⟨rfl, go, rfl⟩
    · rw [eo] at q; cases q
def newOk : List Str := ["join", "inner", "apart", "alone"]
theorem A10.opens (g : A10 D n) {m : Str} (hm : (openD D = true ∧ m = "apart") ∨ (openD D = false ∧ m ∈ newOk)) : enterD D m = (beginD D, none) := by
  rcases g.top with ⟨st, e1⟩ | ⟨k, rs, st, e1⟩
  · have eD : enterD D m = aloneD D m := by unfold enterD; rw [e1]
    have eo : openD D = false := by unfold openD; rw [e1]
    rcases hm with ⟨q, _⟩ | ⟨_, hm⟩
    · rw [eo] at q; cases q
    rw [eD]
    simp only [newOk, List.mem_cons, List.not_mem_nil, or_false] at hm
    rcases hm with rfl | rfl | rfl | rfl <;> rfl
  · have eD : enterD D m = lvlD D m k none rs st := by unfold enterD; rw [e1]
    have eo : openD D = true := by unfold openD; rw [e1]
    rcases hm with ⟨_, rfl⟩ | ⟨q, _⟩
    · rw [eD]; rfl
    · rw [eo] at q; cases q
end
/-! ### plain: the transaction that is filled -/
structure B10 (D : Db) (es : List Str) (st : List (Option Tx)) (k : Int) (r0 : Row) (rbs : List Row) (m N : Nat) : Prop where
  stk : D.stack = some ⟨k, List.replicate (m + 1) none⟩ :: st
  ent : D.entered = List.replicate m ("level" : Str) ++ ("base" : Str) :: es
  rows : D.rows = r0 :: rbs
  fl : D.floor = 0
  wf : Wf es st
  kn : ∀ x, some x ∈ st → x.num ≠ k
  ra : pfx "a" r0.rcd
  rk : ¬ (r0.fate = "open" ∧ r0.holder = k)
  rb : ∀ r ∈ rbs, r.fate = "open" ∧ r.holder = k ∧ pfx "b" r.rcd
  se : es.length ≤ 20
  sm' : m ≤ N
  sr : rbs.length ≤ N
theorem wf_levels {es : List Str} {st : List (Option Tx)} {k : Int} (h : Wf es st) : ∀ m : Nat, Wf (List.replicate m ("level" : Str) ++ ("base" : Str) :: es) (some ⟨k, List.replicate (m + 1) none⟩ :: st)
  | 0 => .base h
  | m + 1 => by
    have := wf_levels (k := k) h m
    rw [List.replicate_succ, List.replicate_succ (n := m + 1)]
    rw [List.replicate_succ] at this
    rw [List.replicate_succ]
    exact .level this
theorem nums_mem {st : List (Option Tx)} {i : Int} : i ∈ numsR st ↔ ∃ x, some x ∈ st ∧ x.num = i := by
  unfold numsR
  rw [List.mem_filterMap]
  constructor
  · rintro ⟨t, ht, e⟩
    cases t with
    | none => cases e
    | some x => exact ⟨x, List.mem_reverse.mp ht, Option.some.inj e⟩
  · rintro ⟨x, hx, e⟩
    exact ⟨some x, List.mem_reverse.mpr hx, congrArg some e⟩
theorem outer_mem {D : Db} {z : Str} : z ∈ outerL D ↔ ∃ r ∈ D.rows, r.fate = "open" ∧ (∃ x, some x ∈ D.stack.tail ∧ x.num = r.holder) ∧ r.rcd = z := by
  unfold outerL
  rw [sortT_mem, held_mem]
  constructor
  · rintro ⟨r, h1, h2, h3, h4⟩
    exact ⟨r, h1, h2, nums_mem.mp h3, h4⟩
  · rintro ⟨r, h1, h2, h3, h4⟩
    exact ⟨r, h1, h2, nums_mem.mpr h3, h4⟩
theorem pfx_ne {z : Str} (h1 : pfx "a" z) (h2 : pfx "b" z) : False := by
  obtain ⟨r, e1⟩ := h1
  obtain ⟨s, e2⟩ := h2
  rw [e1] at e2
  have a1 : ("a" : Str).cps.toList = [97] := by decide +kernel
  have b1 : ("b" : Str).cps.toList = [98] := by decide +kernel
  rw [a1, b1] at e2
  simp at e2
section
variable {D : Db} {es : List Str} {st : List (Option Tx)} {k : Int} {r0 : Row} {rbs : List Row} {m N : Nat}
theorem B10.wfD (g : B10 D es st k r0 rbs m N) : Wf D.entered D.stack := by
  rw [g.ent, g.stk]
  exact wf_levels g.wf m
theorem B10.sm (g : B10 D es st k r0 rbs m N) (h : N ≤ 1000) : Sm D := by
  have h1 := g.wf.len10
  have h2 := g.se
  have h3 := g.sm'
  have h4 := g.sr
  refine ⟨?_, ?_, fun x hx => ?_, ?_⟩
  · rw [g.ent, List.length_append, List.length_replicate, List.length_cons]; omega
  · rw [g.stk, List.length_cons]; omega
  · rw [g.stk] at hx
    rcases List.mem_cons.mp hx with e | e
    · cases e
      rw [List.length_replicate]; omega
    · have := (h1.2 x e).1
      omega
  · rw [g.rows, List.length_cons]; omega
theorem B10.free (g : B10 D es st k r0 rbs m N) : freeD D := by
  intro x st' e
  rw [g.stk] at e
  cases e
  exact ⟨List.replicate m none, by rw [← List.replicate_succ]⟩
theorem B10.hno (g : B10 D es st k r0 rbs m N) : ∀ z, pfx "b" z → z ∉ outerL D := by
  intro z hz hm
  obtain ⟨r, h1, h2, ⟨x, h3, h4⟩, h5⟩ := outer_mem.mp hm
  rw [g.rows] at h1
  rw [g.stk] at h3
  rcases List.mem_cons.mp h1 with rfl | h1
  · subst h5
    exact pfx_ne g.ra hz
  · exact g.kn x h3 (h4.trans (g.rb r h1).2.1)
theorem B10.inner (g : B10 D es st k r0 rbs m N) : ∃ D', enterD D "inner" = (D', none) ∧ B10 D' es st k r0 rbs (m + 1) (N + 1) := by
  refine ⟨plainD { D with stack := some ⟨k, none :: none :: List.replicate m none⟩ :: st } "level", ?_, ⟨?_, ?_, g.rows, g.fl, g.wf, g.kn, g.ra, g.rk, g.rb, g.se, Nat.succ_le_succ g.sm', Nat.le_succ_of_le g.sr⟩⟩
  · have e := g.stk
    rw [List.replicate_succ] at e
    unfold enterD
    rw [e]
    rfl
  · show some (⟨k, none :: none :: List.replicate m none⟩ : Tx) :: st = _
    rw [← List.replicate_succ, ← List.replicate_succ]
  · show ("level" : Str) :: D.entered = _
    rw [g.ent, List.replicate_succ]; rfl
theorem B10.write (g : B10 D es st k r0 rbs m N) {z : Str} {v : V} (hz : pfx "b" z) : B10 (writeD D z v).1 es st k r0 (rbs ++ [⟨z, v, "open", k, (m : Int)⟩]) m (N + 1) := by
  have e := g.stk
  rw [List.replicate_succ] at e
  have eW : writeD D z v = (addD D ⟨z, v, "open", k, (m : Int)⟩, none) := by
    have := g.hno z hz
    unfold writeD
    rw [e]
    dsimp only
    rw [if_neg this, List.length_replicate]
  rw [eW]
  refine ⟨g.stk, g.ent, ?_, g.fl, g.wf, g.kn, g.ra, g.rk, fun r hr => ?_, g.se, Nat.le_succ_of_le g.sm', ?_⟩
  · show D.rows ++ _ = _
    rw [g.rows]; rfl
  · rcases List.mem_append.mp hr with hr | hr
    · exact g.rb r hr
    · rcases List.mem_singleton.mp hr with rfl
      exact ⟨rfl, rfl, hz⟩
  · rw [List.length_append, List.length_singleton]
    have := g.sr
    omega
theorem endLRow_rcd (k t : Int) (ok : Bool) (r : Row) : (endLRow k t ok r).rcd = r.rcd := by
  unfold endLRow
  split
  · split <;> rfl
  · rfl
theorem B10.leave (g : B10 D es st k r0 rbs (m + 1) N) : ∃ D' rbs', leaveD D none true = (D', none) ∧ B10 D' es st k r0 rbs' m N ∧ rbs'.map (·.rcd) = rbs.map (·.rcd) := by
  obtain ⟨rows, stack, entered, floor, opened⟩ := D
  obtain ⟨e1, e2, e3, e4, g1, g2, g3, g4, g5, g6, g7, g8⟩ := g
  dsimp only at e1 e2 e3 e4
  subst e1 e2 e3 e4
  refine ⟨⟨(r0 :: rbs).map (endLRow k ((List.replicate (m + 1) (none : Option Str)).length : Int) true), some ⟨k, List.replicate (m + 1) none⟩ :: st, List.replicate m ("level" : Str) ++ ("base" : Str) :: es, 0, opened⟩, rbs.map (endLRow k ((List.replicate (m + 1) (none : Option Str)).length : Int) true), ?_, ⟨rfl, rfl, ?_, rfl, g1, g2, g3, g4, fun r hr => ?_, g6, by omega, by rw [List.length_map]; exact g8⟩, ?_⟩
  · rw [List.replicate_succ (n := m + 1), List.replicate_succ (n := m)]
    unfold leaveD
    have hlt : ¬ (((("level" : Str) :: (List.replicate m ("level" : Str) ++ ("base" : Str) :: es)).length : Nat) : Int) ≤ 0 := by
      rw [List.length_cons]
      omega
    refine (if_neg hlt).trans ?_
    rfl
  · show endLRow _ _ _ r0 :: _ = _
    congr 1
    unfold endLRow
    rw [if_neg fun c => g4 ⟨c.1, c.2.1⟩]
  · obtain ⟨r', hr', rfl⟩ := List.mem_map.mp hr
    obtain ⟨q1, q2, q3⟩ := g5 r' hr'
    refine ⟨?_, ?_, by rw [endLRow_rcd]; exact q3⟩
    · unfold endLRow
      split
      · rw [if_pos rfl]; exact q1
      · exact q1
    · unfold endLRow
      split
      · rw [if_pos rfl]; exact q2
      · exact q2
  · rw [List.map_map]
    exact List.map_congr_left fun r _ => endLRow_rcd _ _ _ _
end
/-! ### the blocks around -/
def spAr10 (a : Ad) : Sp := fun vs H Q _ => ∃ H0 pp x qa qb L D ra rb c, vs = [.ref pp, .ref x] ∧ K10 a H0 pp x qa qb H L D ra rb c ∧ A10 D 0 ∧ D.rows = [] ∧ c < 2 ^ 30 ∧
  ∀ H' L' D' m, K10 a H0 pp x qa qb H' L' D' ra rb (c + 10) → A10 D' 4 → D'.rows = [] → m ∈ modesS → ((openD D' = true ∧ m = "apart") ∨ (openD D' = false ∧ m ∈ newOk)) → Q (.str m) H'
theorem lst_at6 {r : Int} (h0 : 0 ≤ r) (h1 : r < 6) : ∃ z : Str, atI [V.str "join", V.str "inner", V.str "apart", V.str "must", V.str "either", V.str "outside"] r = some (.str z) ∧ z ∈ inOk ∧ z ∈ modesS := by
  have hr : r = 0 ∨ r = 1 ∨ r = 2 ∨ r = 3 ∨ r = 4 ∨ r = 5 := by omega
  rcases hr with rfl | rfl | rfl | rfl | rfl | rfl
  all_goals exact ⟨_, rfl, by simp [inOk], by simp⟩
theorem lst_at7 {r : Int} (h0 : 0 ≤ r) (h1 : r < 7) : ∃ z : Str, atI [V.str "join", V.str "inner", V.str "apart", V.str "either", V.str "never", V.str "outside", V.str "alone"] r = some (.str z) ∧ z ∈ outOk ∧ z ∈ modesS := by
  have hr : r = 0 ∨ r = 1 ∨ r = 2 ∨ r = 3 ∨ r = 4 ∨ r = 5 ∨ r = 6 := by omega
  rcases hr with rfl | rfl | rfl | rfl | rfl | rfl | rfl
  all_goals exact ⟨_, rfl, by simp [outOk], by simp⟩
theorem lst_at4 {r : Int} (h0 : 0 ≤ r) (h1 : r < 4) : ∃ z : Str, atI [V.str "join", V.str "inner", V.str "apart", V.str "alone"] r = some (.str z) ∧ z ∈ newOk ∧ z ∈ modesS := by
  have hr : r = 0 ∨ r = 1 ∨ r = 2 ∨ r = 3 := by omega
  rcases hr with rfl | rfl | rfl | rfl
  all_goals exact ⟨_, rfl, by simp [newOk], by simp⟩
theorem ok_law_around (T : Txt K mg a d) : FnOk P w K mg base CX0 6 a.law_around d.law_around ["_law_pool_here", "_law_db"] (spAr10 a) := by
  have G_law_draw : FnOk P w K mg base CX0 1 a.law_draw d.law_draw ["_law_pool_here", "_law_many"] spDraw := ok_law_draw T
  have G_Database_enter : FnOk P w K mg base (L2.CX P w) 5 a.Database_enter d.Database_enter ["self", "mode"] (spEnter a) := ok_Database_enter T
  have G_Database_is_open : FnOk P w K mg base CX0 1 a.Database_is_open d.Database_is_open ["self"] (spProp a fun D => .bl (openD D)) := ok_Database_is_open T
  refine T.law_around.ok sc_law_around (fun vs H Q E h => ?_) (fun cdv A outer s H vs Q E hr h => ?_)
  · obtain ⟨H0, pp, x, qa, qb, L, D, ra, rb, c, rfl, _⟩ := h
    rfl
  · obtain ⟨H0, pp, x, qa, qb, L, D, ra, rb, c, rfl, I, g, hrow, hc, k⟩ := h
    refine ⟨_, (pss_cons (ps_for PassesOwn.never rfl (pi_range1 (by rfl) T.n_range (pa_cons (pe_call G_law_draw (hr.mono (by decide)) (by rfl) T.g_law_draw T.law_draw.kp T.b_law_draw .nil pass0 (pa_cons (pv 0) (pa_cons pe_int pa_nil))) pa_nil)) (pg_name (i := 2) sc_law_around.nd rfl (Or.inl rfl))
  (pss_one (ps_if (pt_val (pe_prop (pv 1) T.k_Database T.m_Database_is_open G_Database_is_open (hr.mono (by decide)) T.b_Database_is_open .nil pass0 rfl)) (pss_one (ps_expr (pe_meth (pv 1) T.k_Database T.m_Database_enter G_Database_enter (hr.mono (by decide)) T.b_Database_enter .nil passL (pa_cons (pe_ix ix_list (pe_lst (pa_cons pe_str (pa_cons pe_str (pa_cons pe_str (pa_cons pe_str (pa_cons pe_str (pa_cons pe_str pa_nil))))))) (pe_call G_law_draw (hr.mono (by decide)) (by rfl) T.g_law_draw T.law_draw.kp T.b_law_draw .nil pass0 (pa_cons (pv 0) (pa_cons pe_int pa_nil))) (fun _ _ => rfl)) pa_nil)))) (pss_one (ps_expr (pe_meth (pv 1) T.k_Database T.m_Database_enter G_Database_enter (hr.mono (by decide)) T.b_Database_enter .nil passL (pa_cons (pe_ix ix_list (pe_lst (pa_cons pe_str (pa_cons pe_str (pa_cons pe_str (pa_cons pe_str (pa_cons pe_str (pa_cons pe_str (pa_cons pe_str pa_nil)))))))) (pe_call G_law_draw (hr.mono (by decide)) (by rfl) T.g_law_draw T.law_draw.kp T.b_law_draw .nil pass0 (pa_cons (pv 0) (pa_cons pe_int pa_nil))) (fun _ _ => rfl)) pa_nil)))))))
  (pss_cons (ps_if (pt_val (pe_prop (pv 1) T.k_Database T.m_Database_is_open G_Database_is_open (hr.mono (by decide)) T.b_Database_is_open .nil pass0 rfl)) (pss_one (ps_ret pe_str)) pss_nil)
  (pss_one (ps_ret (pe_ix ix_list (pe_lst (pa_cons pe_str (pa_cons pe_str (pa_cons pe_str (pa_cons pe_str pa_nil))))) (pe_call G_law_draw (hr.mono (by decide)) (by rfl) T.g_law_draw T.law_draw.kp T.b_law_draw .nil pass0 (pa_cons (pv 0) (pa_cons pe_int pa_nil))) (fun _ _ => rfl)))))), ?_⟩
    dsimp only [cxOf]
    obtain ⟨o0, hp0, ho0⟩ := I.pool
    walk_at "rd"
    intro r1 o1 r10 r11 h1
    have I1 := I.draw (o' := o1) Kp.refl.set1 upd_same h1
    generalize upd H pp o1 = H1 at I1 ⊢
    walk_at "rd"
    refine for_range (fun i σ H' => i ≤ 3 ∧ ∃ L D v, K10 a H0 pp x qa qb H' L D ra rb (c + 1 + i) ∧ A10 D i ∧ D.rows = [] ∧ σ = [some (.ref pp), some (.ref x), v]) ?_ ?_ ?_
    · exact ⟨by omega, L, D, none, I1, g, hrow, rfl⟩
    · rintro i σ H2 hi ⟨_, L, D, v, I2, g2, hr2, rfl⟩
      have hi3 : i < 3 := by omega
      have hx2 := I2.dat.db
      rw [I2.ed] at hx2
      have hsm : Sm D := g2.sm (by omega) (by rw [hr2]; simp)
      obtain ⟨o2, hp2, ho2⟩ := I2.pool
      walk_at "rd"
      refine ⟨L, D, by rw [I2.ed], I2.dat, hsm, ?_⟩
      walk_at "rd"
      refine ite2 (fun hop => ?_) (fun hop => ?_)
      · walk_at "rd"
        intro n3 g3
        have I3 := I2.keep ((Same.refl _).new (o := .lst [V.str "join", V.str "inner", V.str "apart", V.str "must", V.str "either", V.str "outside"]) g3)
        have hn3 := upd_same (H := H2) (a := n3) (o := .lst [V.str "join", V.str "inner", V.str "apart", V.str "must", V.str "either", V.str "outside"])
        have np : n3 ≠ pp := fun e => by rw [e, hp2] at g3; cases g3
        generalize upd H2 n3 (.lst [V.str "join", V.str "inner", V.str "apart", V.str "must", V.str "either", V.str "outside"]) = H3 at I3 hn3 ⊢
        obtain ⟨o3, hp3, ho3⟩ := I3.pool
        walk_at "rd"
        intro r4 o4 r40 r41 h4
        have I4 := I3.draw (o' := o4) Kp.refl.set1 upd_same h4
        have hn4 := upd_oth (o := o4) np hn3
        generalize upd H3 pp o4 = H4 at I4 hn4 ⊢
        obtain ⟨m, m1, m2, m3⟩ := lst_at6 r40 r41
        walk_at "rd"
        refine ⟨L, D, .str m, by rw [I4.ed]; rfl, mode_thing m3, I4.dat, hsm, fun H5 L5 hD5 f5 => ?_⟩
        have I5 := I4.db hD5 f5
        obtain ⟨e1, e2, e3⟩ := g2.enters (m := m) (.inl ⟨hop, m2⟩)
        rw [enterV_mode m3] at I5 ⊢
        rw [e1]
        exact ⟨hi3, L5, _, _, I5, e2, e3.trans hr2, rfl⟩
      · walk_at "rd"
        intro n3 g3
        have I3 := I2.keep ((Same.refl _).new (o := .lst [V.str "join", V.str "inner", V.str "apart", V.str "either", V.str "never", V.str "outside", V.str "alone"]) g3)
        have hn3 := upd_same (H := H2) (a := n3) (o := .lst [V.str "join", V.str "inner", V.str "apart", V.str "either", V.str "never", V.str "outside", V.str "alone"])
        have np : n3 ≠ pp := fun e => by rw [e, hp2] at g3; cases g3
        generalize upd H2 n3 (.lst [V.str "join", V.str "inner", V.str "apart", V.str "either", V.str "never", V.str "outside", V.str "alone"]) = H3 at I3 hn3 ⊢
        obtain ⟨o3, hp3, ho3⟩ := I3.pool
        walk_at "rd"
        intro r4 o4 r40 r41 h4
        have I4 := I3.draw (o' := o4) Kp.refl.set1 upd_same h4
        have hn4 := upd_oth (o := o4) np hn3
        generalize upd H3 pp o4 = H4 at I4 hn4 ⊢
        obtain ⟨m, m1, m2, m3⟩ := lst_at7 r40 r41
        walk_at "rd"
        refine ⟨L, D, .str m, by rw [I4.ed]; rfl, mode_thing m3, I4.dat, hsm, fun H5 L5 hD5 f5 => ?_⟩
        have I5 := I4.db hD5 f5
        obtain ⟨e1, e2, e3⟩ := g2.enters (m := m) (.inr ⟨Bool.eq_false_iff.mpr hop, m2⟩)
        rw [enterV_mode m3] at I5 ⊢
        rw [e1]
        exact ⟨hi3, L5, _, _, I5, e2, e3.trans hr2, rfl⟩
    · rintro σ H2 ⟨hi, L, D, v, I2, g2, hr2, rfl⟩
      have hx2 := I2.dat.db
      rw [I2.ed] at hx2
      have hsm : Sm D := g2.sm (by omega) (by rw [hr2]; simp)
      obtain ⟨o2, hp2, ho2⟩ := I2.pool
      walk_at "rd"
      refine ⟨L, D, by rw [I2.ed], I2.dat, hsm, ?_⟩
      walk_at "rd"
      refine ite2 (fun hop => ?_) (fun hop => ?_)
      · walk_at "rd"
        exact k _ L D "apart" (I2.up (by omega)) { g2 with e := by have := g2.e; omega } hr2 (by simp) (.inl ⟨hop, rfl⟩)
      · walk_at "rd"
        intro n3 g3
        have I3 := I2.keep ((Same.refl _).new (o := .lst [V.str "join", V.str "inner", V.str "apart", V.str "alone"]) g3)
        have hn3 := upd_same (H := H2) (a := n3) (o := .lst [V.str "join", V.str "inner", V.str "apart", V.str "alone"])
        have np : n3 ≠ pp := fun e => by rw [e, hp2] at g3; cases g3
        generalize upd H2 n3 (.lst [V.str "join", V.str "inner", V.str "apart", V.str "alone"]) = H3 at I3 hn3 ⊢
        obtain ⟨o3, hp3, ho3⟩ := I3.pool
        walk_at "rd"
        intro r4 o4 r40 r41 h4
        have I4 := I3.draw (o' := o4) Kp.refl.set1 upd_same h4
        have hn4 := upd_oth (o := o4) np hn3
        generalize upd H3 pp o4 = H4 at I4 hn4 ⊢
        obtain ⟨m, m1, m2, m3⟩ := lst_at4 r40 r41
        walk_at "rd"
        exact k _ L D m (I4.up (by omega)) { g2 with e := by have := g2.e; omega } hr2 m3 (.inr ⟨Bool.eq_false_iff.mpr hop, m2⟩)
/-! ### the transaction is filled -/
theorem B10.up {D : Db} {es : List Str} {st : List (Option Tx)} {k : Int} {r0 : Row} {rbs : List Row} {m N N' : Nat} (g : B10 D es st k r0 rbs m N) (h : N ≤ N') : B10 D es st k r0 rbs m N' := { g with sm' := Nat.le_trans g.sm' h, sr := Nat.le_trans g.sr h }
def spFi10 (a : Ad) : Sp := fun vs H Q _ => ∃ H0 pp x qa qb L D rb c es st k r0, vs = [.ref pp, .ref x, .ref qa] ∧ K10 a H0 pp x qa qb H L D [] rb c ∧ B10 D es st k r0 [] 0 0 ∧ c < 2 ^ 30 ∧
  ∀ H' L' D' rbs, K10 a H0 pp x qa qb H' L' D' (rbs.map (·.rcd)) rb (c + 400) → B10 D' es st k r0 rbs 0 60 → Q .non H'
theorem ok_law_fill (T : Txt K mg a d) : FnOk P w K mg base CX0 7 a.law_fill d.law_fill ["_law_pool_here", "_law_db", "_law_records"] (spFi10 a) := by
  have G_law_draw : FnOk P w K mg base CX0 1 a.law_draw d.law_draw ["_law_pool_here", "_law_many"] spDraw := ok_law_draw T
  have G_law_write : FnOk P w K mg base CX0 6 a.law_write d.law_write ["_law_pool_here", "_law_db", "_law_records", "_law_prefix"] (spW10 a) := ok_law_write T
  have G_Database_enter : FnOk P w K mg base (L2.CX P w) 5 a.Database_enter d.Database_enter ["self", "mode"] (spEnter a) := ok_Database_enter T
  have G_Database_leave : FnOk P w K mg base (L2.CX P w) 3 a.Database_leave d.Database_leave ["self", "error", "commits"] (spLeave a) := ok_Database_leave T
  have G_Database_levels : FnOk P w K mg base CX0 1 a.Database_levels d.Database_levels ["self"] (spProp a fun D => .int (levelsD D : Int)) := ok_Database_levels T
  obtain ⟨_, vl_leave, bl_leave⟩ := bd_leave0 T
  have wb : IsWord "b" := wordS_of (by decide +kernel)
  refine T.law_fill.ok sc_law_fill (fun vs H Q E h => ?_) (fun cdv A outer s H vs Q E hr h => ?_)
  · obtain ⟨H0, pp, x, qa, qb, L, D, rb, c, es, st, k, r0, rfl, _⟩ := h
    rfl
  · obtain ⟨H0, pp, x, qa, qb, L, D, rb, c, es, st, k, r0, rfl, I, g, hc, kk⟩ := h
    refine ⟨_, (pss_cons (ps_for PassesOwn.never rfl (pi_range1 (by rfl) T.n_range (pa_cons (pe_call G_law_draw (hr.mono (by decide)) (by rfl) T.g_law_draw T.law_draw.kp T.b_law_draw .nil pass0 (pa_cons (pv 0) (pa_cons pe_int pa_nil))) pa_nil)) (pg_name (i := 3) sc_law_fill.nd rfl (Or.inl rfl))
  (pss_cons (ps_if (pt_cmpR op_eq (pe_call G_law_draw (hr.mono (by decide)) (by rfl) T.g_law_draw T.law_draw.kp T.b_law_draw .nil pass0 (pa_cons (pv 0) (pa_cons pe_int pa_nil))) pe_int (nomark _)) (pss_cons (ps_expr (pe_meth (pv 1) T.k_Database T.m_Database_enter G_Database_enter (hr.mono (by decide)) T.b_Database_enter .nil passL (pa_cons pe_str pa_nil)))
  (pss_one (ps_expr (pe_call G_law_write (hr.mono (by decide)) (by rfl) T.g_law_write T.law_write.kp T.b_law_write .nil pass0 (pa_cons (pv 0) (pa_cons (pv 1) (pa_cons (pv 2) (pa_cons pe_str pa_nil)))))))) pss_nil)
  (pss_cons (ps_if (pt_cmpR op_gt (pe_call G_law_draw (hr.mono (by decide)) (by rfl) T.g_law_draw T.law_draw.kp T.b_law_draw .nil pass0 (pa_cons (pv 0) (pa_cons pe_int pa_nil))) pe_int (nomark _)) (pss_one (ps_expr (pe_call G_law_write (hr.mono (by decide)) (by rfl) T.g_law_write T.law_write.kp T.b_law_write .nil pass0 (pa_cons (pv 0) (pa_cons (pv 1) (pa_cons (pv 2) (pa_cons pe_str pa_nil))))))) pss_nil)
  (pss_one (ps_if (PW.pt (pw_and (pt_cmpR op_gt (pe_prop (pv 1) T.k_Database T.m_Database_levels G_Database_levels (hr.mono (by decide)) T.b_Database_levels .nil pass0 rfl) pe_int (nomark _)) (pw_and1 (pt_cmpR op_eq (pe_call G_law_draw (hr.mono (by decide)) (by rfl) T.g_law_draw T.law_draw.kp T.b_law_draw .nil pass0 (pa_cons (pv 0) (pa_cons pe_int pa_nil))) pe_int (nomark _))))) (pss_one (ps_expr (pe_meth0 (pv 1) T.k_Database T.m_Database_leave G_Database_leave (hr.mono (by decide)) bl_leave vl_leave passL))) pss_nil)))))
  (pss_one (ps_while PassesOwn.never (pt_cmpR op_gt (pe_prop (pv 1) T.k_Database T.m_Database_levels G_Database_levels (hr.mono (by decide)) T.b_Database_levels .nil pass0 rfl) pe_int (nomark _))
  (pss_one (ps_expr (pe_meth0 (pv 1) T.k_Database T.m_Database_leave G_Database_leave (hr.mono (by decide)) bl_leave vl_leave passL)))))), ?_⟩
    try dsimp only [cxOf]
    obtain ⟨o0, hp0, ho0⟩ := I.pool
    walk_at "rd"
    intro r1 o1 r10 r11 h1
    have I1 := I.draw (o' := o1) Kp.refl.set1 upd_same h1
    generalize upd H pp o1 = H1 at I1 ⊢
    walk_at "rd"
    refine for_range (fun i σ H' => i ≤ 5 ∧ ∃ L D rbs m v, K10 a H0 pp x qa qb H' L D (rbs.map (·.rcd)) rb (c + 1 + 40 * i) ∧ B10 D es st k r0 rbs m (3 * i) ∧ σ = [some (.ref pp), some (.ref x), some (.ref qa), v]) ?_ ?_ ?_
    · exact ⟨by omega, L, D, [], 0, none, I1, g, rfl⟩
    · rintro i σ H2 hi ⟨_, L, D, rbs, m, v, I2, g2, rfl⟩
      have hi6 : i + 1 ≤ 5 := by omega
      obtain ⟨o2, hp2, ho2⟩ := I2.pool
      walk_at "rd"
      intro r3 o3 r30 r31 h3
      have I3 := I2.draw (o' := o3) Kp.refl.set1 upd_same h3
      generalize upd H2 pp o3 = H3 at I3 ⊢
      walk_at "rd"
      refine ite2 (fun c3 => ?_) (fun c3 => ?_)
      · have hx3 := I3.dat.db
        rw [I3.ed] at hx3
        obtain ⟨D4, eI, g4⟩ := g2.inner
        walk_at "rd"
        refine ⟨L, D, .str "inner", by rw [I3.ed]; rfl, mode_thing (by simp), I3.dat, g2.sm (by omega), fun H4 L4 hD4 f4 => ?_⟩
        have I4 := I3.db hD4 f4
        rw [enterV_mode (by simp), eI] at I4 ⊢
        walk_at "rd"
        refine ⟨H0, pp, x, qa, qb, L4, D4, _, rb, _, "b", rfl, wb, rfl, I4, g4.sm (by omega), by rw [g4.stk]; simp, g4.free, g4.hno, by rw [List.length_map]; have := g4.sr; omega, by omega, fun W5 L5 z5 i5 wz5 wp5 I5 => ?_⟩
        have g5 := g4.write (v := .int i5) wp5
        rw [show rbs.map (·.rcd) ++ [z5] = (rbs ++ [(⟨z5, .int i5, "open", k, (((m + 1) : Nat) : Int)⟩ : Row)]).map (·.rcd) by rw [List.map_append]; rfl] at I5
        generalize (writeD D4 z5 (.int i5)).1 = D5 at I5 g5
        generalize rbs ++ [(⟨z5, .int i5, "open", k, (((m + 1) : Nat) : Int)⟩ : Row)] = rbs5 at I5 g5
        obtain ⟨o6, hp6, ho6⟩ := I5.pool
        walk_at "rd"
        intro r7 oo7 r70 r71 h7
        have I7 := I5.draw (o' := oo7) Kp.refl.set1 upd_same h7
        generalize upd W5 pp oo7 = H7 at I7 ⊢
        walk_at "rd"
        refine ite2 (fun c7 => ?_) (fun c7 => ?_)
        · skip
          walk_at "rd"
          refine ⟨H0, pp, x, qa, qb, L5, D5, _, rb, _, "b", rfl, wb, rfl, I7, g5.sm (by omega), by rw [g5.stk]; simp, g5.free, g5.hno, by rw [List.length_map]; have := g5.sr; omega, by omega, fun W8 L8 z8 i8 wz8 wp8 I8 => ?_⟩
          have g8 := g5.write (v := .int i8) wp8
          rw [show rbs5.map (·.rcd) ++ [z8] = (rbs5 ++ [(⟨z8, .int i8, "open", k, (((m + 1) : Nat) : Int)⟩ : Row)]).map (·.rcd) by rw [List.map_append]; rfl] at I8
          generalize (writeD D5 z8 (.int i8)).1 = D8 at I8 g8
          generalize rbs5 ++ [(⟨z8, .int i8, "open", k, (((m + 1) : Nat) : Int)⟩ : Row)] = rbs8 at I8 g8
          have hx9 := I8.dat.db
          rw [I8.ed] at hx9
          obtain ⟨o9, hp9, ho9⟩ := I8.pool
          have el9 : levelsD D8 = (m + 1) + 1 := by unfold levelsD; rw [g8.stk]; exact List.length_replicate
          walk_at "rd"
          refine ⟨L8, D8, by rw [I8.ed], I8.dat, g8.sm (by omega), ?_⟩
          walk_at "rd"
          refine ite2 (fun c9 => ?_) (fun c9 => ?_)
          · walk_at "rd"
            intro r10 oo10 r100 r101 h10
            have J10 := I8.draw (o' := oo10) Kp.refl.set1 upd_same h10
            generalize upd W8 pp oo10 = H10 at J10 ⊢
            walk_at "rd"
            refine ite2 (fun c10 => ?_) (fun c10 => ?_)
            · have hx10 := J10.dat.db
              rw [J10.ed] at hx10
              obtain ⟨m', em⟩ : ∃ m', (m + 1) = m' + 1 := ⟨(m + 1) - 1, by have := of_decide_eq_true c9; omega⟩
              have g9 := g8
              rw [em] at g9
              obtain ⟨D', rbs', e1, g', e3⟩ := g9.leave
              walk_at "rd"
              refine ⟨L8, D8, .non, true, by rw [J10.ed]; rfl, .non, J10.dat, g8.sm (by omega), by rw [g8.fl]; exact Int.le_refl 0, g8.wfD, fun H11 L11 hD11 f11 => ?_⟩
              have J11 := J10.db hD11 f11
              rw [show leaveV D8 .non true = leaveD D8 none true from rfl, e1] at J11 ⊢
              rw [← e3] at J11
              first | exact ⟨hi6, L11, D', rbs', m', _, J11.up (by omega), g'.up (by omega), rfl⟩ | exact ⟨L11, D', rbs', m', _, J11.up (by omega), g'.up (by omega), rfl⟩
            · walk_at "rd"
              first | exact ⟨hi6, L8, D8, rbs8, (m + 1), _, J10.up (by omega), g8.up (by omega), rfl⟩ | exact ⟨L8, D8, rbs8, (m + 1), _, J10.up (by omega), g8.up (by omega), rfl⟩
          · walk_at "rd"
            first | exact ⟨hi6, L8, D8, rbs8, (m + 1), _, I8.up (by omega), g8.up (by omega), rfl⟩ | exact ⟨L8, D8, rbs8, (m + 1), _, I8.up (by omega), g8.up (by omega), rfl⟩
        · skip
          have hx9 := I7.dat.db
          rw [I7.ed] at hx9
          obtain ⟨o9, hp9, ho9⟩ := I7.pool
          have el9 : levelsD D5 = (m + 1) + 1 := by unfold levelsD; rw [g5.stk]; exact List.length_replicate
          walk_at "rd"
          refine ⟨L5, D5, by rw [I7.ed], I7.dat, g5.sm (by omega), ?_⟩
          walk_at "rd"
          refine ite2 (fun c9 => ?_) (fun c9 => ?_)
          · walk_at "rd"
            intro r10 oo10 r100 r101 h10
            have J10 := I7.draw (o' := oo10) Kp.refl.set1 upd_same h10
            generalize upd H7 pp oo10 = H10 at J10 ⊢
            walk_at "rd"
            refine ite2 (fun c10 => ?_) (fun c10 => ?_)
            · have hx10 := J10.dat.db
              rw [J10.ed] at hx10
              obtain ⟨m', em⟩ : ∃ m', (m + 1) = m' + 1 := ⟨(m + 1) - 1, by have := of_decide_eq_true c9; omega⟩
              have g9 := g5
              rw [em] at g9
              obtain ⟨D', rbs', e1, g', e3⟩ := g9.leave
              walk_at "rd"
              refine ⟨L5, D5, .non, true, by rw [J10.ed]; rfl, .non, J10.dat, g5.sm (by omega), by rw [g5.fl]; exact Int.le_refl 0, g5.wfD, fun H11 L11 hD11 f11 => ?_⟩
              have J11 := J10.db hD11 f11
              rw [show leaveV D5 .non true = leaveD D5 none true from rfl, e1] at J11 ⊢
              rw [← e3] at J11
              first | exact ⟨hi6, L11, D', rbs', m', _, J11.up (by omega), g'.up (by omega), rfl⟩ | exact ⟨L11, D', rbs', m', _, J11.up (by omega), g'.up (by omega), rfl⟩
            · walk_at "rd"
              first | exact ⟨hi6, L5, D5, rbs5, (m + 1), _, J10.up (by omega), g5.up (by omega), rfl⟩ | exact ⟨L5, D5, rbs5, (m + 1), _, J10.up (by omega), g5.up (by omega), rfl⟩
          · walk_at "rd"
            first | exact ⟨hi6, L5, D5, rbs5, (m + 1), _, I7.up (by omega), g5.up (by omega), rfl⟩ | exact ⟨L5, D5, rbs5, (m + 1), _, I7.up (by omega), g5.up (by omega), rfl⟩
      · skip
        obtain ⟨o6, hp6, ho6⟩ := I3.pool
        walk_at "rd"
        intro r7 oo7 r70 r71 h7
        have I7 := I3.draw (o' := oo7) Kp.refl.set1 upd_same h7
        generalize upd H3 pp oo7 = H7 at I7 ⊢
        walk_at "rd"
        refine ite2 (fun c7 => ?_) (fun c7 => ?_)
        · skip
          walk_at "rd"
          refine ⟨H0, pp, x, qa, qb, L, D, _, rb, _, "b", rfl, wb, rfl, I7, g2.sm (by omega), by rw [g2.stk]; simp, g2.free, g2.hno, by rw [List.length_map]; have := g2.sr; omega, by omega, fun W8 L8 z8 i8 wz8 wp8 I8 => ?_⟩
          have g8 := g2.write (v := .int i8) wp8
          rw [show rbs.map (·.rcd) ++ [z8] = (rbs ++ [(⟨z8, .int i8, "open", k, ((m : Nat) : Int)⟩ : Row)]).map (·.rcd) by rw [List.map_append]; rfl] at I8
          generalize (writeD D z8 (.int i8)).1 = D8 at I8 g8
          generalize rbs ++ [(⟨z8, .int i8, "open", k, ((m : Nat) : Int)⟩ : Row)] = rbs8 at I8 g8
          have hx9 := I8.dat.db
          rw [I8.ed] at hx9
          obtain ⟨o9, hp9, ho9⟩ := I8.pool
          have el9 : levelsD D8 = m + 1 := by unfold levelsD; rw [g8.stk]; exact List.length_replicate
          walk_at "rd"
          refine ⟨L8, D8, by rw [I8.ed], I8.dat, g8.sm (by omega), ?_⟩
          walk_at "rd"
          refine ite2 (fun c9 => ?_) (fun c9 => ?_)
          · walk_at "rd"
            intro r10 oo10 r100 r101 h10
            have J10 := I8.draw (o' := oo10) Kp.refl.set1 upd_same h10
            generalize upd W8 pp oo10 = H10 at J10 ⊢
            walk_at "rd"
            refine ite2 (fun c10 => ?_) (fun c10 => ?_)
            · have hx10 := J10.dat.db
              rw [J10.ed] at hx10
              obtain ⟨m', em⟩ : ∃ m', m = m' + 1 := ⟨m - 1, by have := of_decide_eq_true c9; omega⟩
              have g9 := g8
              rw [em] at g9
              obtain ⟨D', rbs', e1, g', e3⟩ := g9.leave
              walk_at "rd"
              refine ⟨L8, D8, .non, true, by rw [J10.ed]; rfl, .non, J10.dat, g8.sm (by omega), by rw [g8.fl]; exact Int.le_refl 0, g8.wfD, fun H11 L11 hD11 f11 => ?_⟩
              have J11 := J10.db hD11 f11
              rw [show leaveV D8 .non true = leaveD D8 none true from rfl, e1] at J11 ⊢
              rw [← e3] at J11
              first | exact ⟨hi6, L11, D', rbs', m', _, J11.up (by omega), g'.up (by omega), rfl⟩ | exact ⟨L11, D', rbs', m', _, J11.up (by omega), g'.up (by omega), rfl⟩
            · walk_at "rd"
              first | exact ⟨hi6, L8, D8, rbs8, m, _, J10.up (by omega), g8.up (by omega), rfl⟩ | exact ⟨L8, D8, rbs8, m, _, J10.up (by omega), g8.up (by omega), rfl⟩
          · walk_at "rd"
            first | exact ⟨hi6, L8, D8, rbs8, m, _, I8.up (by omega), g8.up (by omega), rfl⟩ | exact ⟨L8, D8, rbs8, m, _, I8.up (by omega), g8.up (by omega), rfl⟩
        · skip
          have hx9 := I7.dat.db
          rw [I7.ed] at hx9
          obtain ⟨o9, hp9, ho9⟩ := I7.pool
          have el9 : levelsD D = m + 1 := by unfold levelsD; rw [g2.stk]; exact List.length_replicate
          walk_at "rd"
          refine ⟨L, D, by rw [I7.ed], I7.dat, g2.sm (by omega), ?_⟩
          walk_at "rd"
          refine ite2 (fun c9 => ?_) (fun c9 => ?_)
          · walk_at "rd"
            intro r10 oo10 r100 r101 h10
            have J10 := I7.draw (o' := oo10) Kp.refl.set1 upd_same h10
            generalize upd H7 pp oo10 = H10 at J10 ⊢
            walk_at "rd"
            refine ite2 (fun c10 => ?_) (fun c10 => ?_)
            · have hx10 := J10.dat.db
              rw [J10.ed] at hx10
              obtain ⟨m', em⟩ : ∃ m', m = m' + 1 := ⟨m - 1, by have := of_decide_eq_true c9; omega⟩
              have g9 := g2
              rw [em] at g9
              obtain ⟨D', rbs', e1, g', e3⟩ := g9.leave
              walk_at "rd"
              refine ⟨L, D, .non, true, by rw [J10.ed]; rfl, .non, J10.dat, g2.sm (by omega), by rw [g2.fl]; exact Int.le_refl 0, g2.wfD, fun H11 L11 hD11 f11 => ?_⟩
              have J11 := J10.db hD11 f11
              rw [show leaveV D .non true = leaveD D none true from rfl, e1] at J11 ⊢
              rw [← e3] at J11
              first | exact ⟨hi6, L11, D', rbs', m', _, J11.up (by omega), g'.up (by omega), rfl⟩ | exact ⟨L11, D', rbs', m', _, J11.up (by omega), g'.up (by omega), rfl⟩
            · walk_at "rd"
              first | exact ⟨hi6, L, D, rbs, m, _, J10.up (by omega), g2.up (by omega), rfl⟩ | exact ⟨L, D, rbs, m, _, J10.up (by omega), g2.up (by omega), rfl⟩
          · walk_at "rd"
            first | exact ⟨hi6, L, D, rbs, m, _, I7.up (by omega), g2.up (by omega), rfl⟩ | exact ⟨L, D, rbs, m, _, I7.up (by omega), g2.up (by omega), rfl⟩
    · rintro σ H2 ⟨hi, L, D, rbs, m, v, I2, g2, rfl⟩
      walk_at "rd"
      refine ⟨fun m' σ' H' => ∃ L D rbs, K10 a H0 pp x qa qb H' L D (rbs.map (·.rcd)) rb (c + 1 + 40 * 5) ∧ B10 D es st k r0 rbs m' 15 ∧ σ' = [some (.ref pp), some (.ref x), some (.ref qa), v], ⟨m, L, D, rbs, I2.up (by omega), g2.up (by omega), rfl⟩, ?_⟩
      rintro m' σ' H' ⟨L, D, rbs, I3, g3, rfl⟩
      have hx3 := I3.dat.db
      rw [I3.ed] at hx3
      have el : levelsD D = m' + 1 := by unfold levelsD; rw [g3.stk]; exact List.length_replicate
      walk_at "rd"
      refine ⟨L, D, by rw [I3.ed], I3.dat, g3.sm (by omega), ?_⟩
      walk_at "rd"
      refine ite2 (fun c9 => ?_) (fun c9 => ?_)
      · obtain ⟨m2, em⟩ : ∃ m2, m' = m2 + 1 := ⟨m' - 1, by have := of_decide_eq_true c9; omega⟩
        subst em
        obtain ⟨D', rbs', e1, g', e3⟩ := g3.leave
        refine ⟨fun σ H => ∃ L D rbs, K10 a H0 pp x qa qb H L D (rbs.map (·.rcd)) rb (c + 1 + 40 * 5) ∧ B10 D es st k r0 rbs m2 15 ∧ σ = [some (.ref pp), some (.ref x), some (.ref qa), v], fun σ H h => ⟨m2, by omega, h⟩, ?_⟩
        walk_at "rd"
        refine ⟨L, D, .non, true, by rw [I3.ed]; rfl, .non, I3.dat, g3.sm (by omega), by rw [g3.fl]; exact Int.le_refl 0, g3.wfD, fun H11 L11 hD11 f11 => ?_⟩
        have J11 := I3.db hD11 f11
        rw [show leaveV D .non true = leaveD D none true from rfl, e1] at J11 ⊢
        rw [← e3] at J11
        exact ⟨L11, D', rbs', J11, g', rfl⟩
      · have em : m' = 0 := by
          have : ¬ ((1 : Int) < (levelsD D : Int)) := fun z => c9 (decide_eq_true z)
          omega
        subst em
        walk_at "rd"
        exact kk _ L D rbs (I3.up (by omega)) (g3.up (by omega))
/-! ### the law leaves -/
theorem no_Doomed_first (T : Txt K mg a d) : PySem.W.findIn K (.ref a.Doomed) "first" = some none := T.e_Doomed.noF ("first", .inl 0) (by simp [ef_Doomed])
theorem no_Doomed_word (T : Txt K mg a d) : PySem.W.findIn K (.ref a.Doomed) "word" = some none := T.e_Doomed.noF ("word", .inr "doomed") (by simp [ef_Doomed])
theorem no_Refused_word (T : Txt K mg a d) : PySem.W.findIn K (.ref a.Refused) "word" = some none := T.e_Refused.noF ("word", .inr "refused") (by simp [ef_Refused])
theorem kb_leave' (T : Txt K mg a d) : ∃ its mv : List Value, KBn K d.Database_leave ["self", "error", "commits"] 2 ["commits"] (fun us ws => us ++ ws) (fun vs zs => vs ++ zs) :=
  T.Database_leave.kbinds (ps := ["self", "error", "commits"]) 2 ["commits"] [] (fun us _ _ ws => us ++ ws) (by simp) (by simp) (by simp) (fun a _ _ b => a.append b)
    (fun T D doc pm an cdv ct us its mv ws hu hi hm hw => match us, hu, its, hi, mv, hm, ws, hw with | [_, _], _, [_], _, [], _, [_], _ => ⟨_, rfl, rfl⟩)
theorem word_thing' {H : Hp} {err : Option Str} (h : ∀ z, err = some z → IsWord z) : Thing H (oV err) := by
  cases err with
  | none => exact .non
  | some z => exact word_thing (h z rfl)
def dueT : Option EK → List V
  | none => [.str "", .non]
  | some (.doomed z) => [.str "doomed", .str z]
  | some .refused => [.str "refused", .non]
  | _ => []
def okE : Option EK → Prop
  | none => True
  | some (.doomed _) => True
  | some .refused => True
  | _ => False
def spLe10 (a : Ad) : Sp := fun vs H Q _ => ∃ H0 pp x qa qb L D ra rb c err b, vs = [.ref x, oV err, .bl b] ∧ (∀ z, err = some z → IsWord z) ∧ K10 a H0 pp x qa qb H L D ra rb c ∧ Sm D ∧ D.floor = 0 ∧ Wf D.entered D.stack ∧ okE (leaveD D err b).2 ∧
  ∀ H' L' t, K10 a H0 pp x qa qb H' L' (leaveD D err b).1 ra rb c → H' t = some (.tup (dueT (leaveD D err b).2)) → (∀ p xs, H p = some (.tup xs) → H' p = some (.tup xs)) → Q (.ref t) H'
theorem DbAt.mutTup {aD aT aW : Addr} {H : Hp} {L : Lay} {D : Db} {b : Addr} {xs : List V} (h : DbAt aD aT aW H L D) (e : H b = some (.tup xs)) : ¬ Mut L b := fun m => by
  rcases m with rfl | rfl | rfl | rfl | ⟨t, m, rfl⟩ | ⟨w, m, rfl⟩
  · rw [h.db] at e; cases e
  · rw [h.r] at e; cases e
  · rw [h.s] at e; cases e
  · rw [h.e] at e; cases e
  · obtain ⟨x, _, h2, _⟩ := h.tx m
    rw [h2] at e; cases e
  · obtain ⟨x, h1⟩ := h.row m
    rw [h1] at e; cases e
theorem ok_law_leave (T : Txt K mg a d) : FnOk P w K mg base CX0 4 a.law_leave d.law_leave ["_law_db", "_law_error", "_law_goes"] (spLe10 a) := by
  have G_Database_leave : FnOk P w K mg base (L2.CX P w) 3 a.Database_leave d.Database_leave ["self", "error", "commits"] (spLeave a) := ok_Database_leave T
  obtain ⟨_, _, kb_leave⟩ := kb_leave' T
  refine T.law_leave.ok sc_law_leave (fun vs H Q E h => ?_) (fun cdv A outer s H vs Q E hr h => ?_)
  · obtain ⟨H0, pp, x, qa, qb, L, D, ra, rb, c, err, b, rfl, _⟩ := h
    rfl
  · obtain ⟨H0, pp, x, qa, qb, L, D, ra, rb, c, err, b, rfl, hz, I, hm, hfl, hw, hok, k⟩ := h
    refine ⟨_, (pss_cons (ps_tryA rfl rfl sc_law_leave.nd takes0 (fun W pn xe tk po => (pss_one (ps_expr (pe_methK (pv 0) T.k_Database T.m_Database_leave G_Database_leave (hr.mono (by decide)) kb_leave (fun σ => passAt tk σ) (pa_cons (pv 1) pa_nil) (pk_cons (pv 2) pk_nil))))) (.consA (i := 3) (.intro (by rfl) (And.intro (by decide) (Or.inl T.g_Doomed))) rfl rfl (fun _ _ _ _ _ hz hf => (pss_one (ps_ret (pe_tup (pa_cons (pe_xf (xfc T.e_Doomed) (no_Doomed_word T) hz hf (pv 3)) (pa_cons (pe_xf (xfc T.e_Doomed) (no_Doomed_first T) hz hf (pv 3)) pa_nil)))))) (.consA (i := 3) (.intro (by rfl) (And.intro (by decide) (Or.inl T.g_Refused))) rfl rfl (fun _ _ _ _ _ hz hf => (pss_one (ps_ret (pe_tup (pa_cons (pe_xf (xfc T.e_Refused) (no_Refused_word T) hz hf (pv 3)) (pa_cons pe_non pa_nil)))))) .nil)))
  (pss_one (ps_ret (pe_tup (pa_cons pe_str (pa_cons pe_non pa_nil)))))), ?_⟩
    dsimp only [cxOf]
    have hx := I.dat.db
    rw [I.ed] at hx
    walk_at "rd"
    refine ⟨L, D, oV err, b, by rw [I.ed]; rfl, word_thing' hz, I.dat, hm, by rw [hfl]; exact Int.le_refl 0, hw, fun H1 L1 hD1 f1 => ?_⟩
    have I1 := I.db hD1 f1
    rw [leaveV_o hz] at I1 ⊢
    have tp : ∀ p xs, H p = some (.tup xs) → H1 p = some (.tup xs) := fun p xs e => f1.kp _ _ e (I.dat.mutTup e)
    generalize leaveD D err b = res at I1 hok k ⊢
    obtain ⟨D1, er⟩ := res
    dsimp only at I1 hok k ⊢
    cases er with
    | none =>
      walk_at "rd"
      intro t ht
      exact k _ L1 t (I1.keep ((Same.refl _).new ht)) upd_same fun p xs e => upd_old (tp p xs e) ht
    | some e =>
      cases e with
      | doomed z =>
        intro dd gd
        refine ⟨true, T.e_Doomed.te, fun _ x hx => ?_, (fun z => by cases z)⟩
        unfold wCl
        walk_at "rd"
        intro t ht
        exact k _ L1 t ((I1.keep ((Same.refl _).new gd)).keep ((Same.refl _).new ht)) upd_same fun p xs e => upd_old (upd_old (tp p xs e) gd) ht
      | refused =>
        intro dd gd
        refine ⟨false, T.x_Refused_Doomed, (fun z => by cases z), fun _ => ⟨true, T.e_Refused.te, fun _ x hx => ?_, (fun z => by cases z)⟩⟩
        unfold wCl
        walk_at "rd"
        intro t ht
        exact k _ L1 t ((I1.keep ((Same.refl _).new gd)).keep ((Same.refl _).new ht)) upd_same fun p xs e => upd_old (upd_old (tp p xs e) gd) ht
      | missing _ => exact hok.elim
      | present _ => exact hok.elim
      | noblock => exact hok.elim
      | waits _ => exact hok.elim
      | norecord _ => exact hok.elim
      | badword _ => exact hok.elim
      | badmode _ => exact hok.elim
/-! ### plain: the ends -/
theorem wr_row {D : Db} {z : Str} {v : V} (ne : D.stack ≠ []) (hf : freeD D) (ho : z ∉ outerL D) : ∃ r : Row, writeD D z v = (addD D r, none) ∧ r.rcd = z ∧ ((r.fate = "kept" ∧ r.holder = -1) ∨ (r.fate = "open" ∧ ∃ x st, D.stack = some x :: st ∧ r.holder = x.num)) := by
  cases es : D.stack with
  | nil => exact absurd es ne
  | cons t st =>
    cases t with
    | none =>
      refine ⟨⟨z, v, "kept", -1, 0⟩, ?_, rfl, .inl ⟨rfl, rfl⟩⟩
      unfold writeD
      rw [es]
      dsimp only
      rw [if_neg ho]
    | some y =>
      obtain ⟨rs, ey⟩ := hf y st es
      obtain ⟨n, rs0⟩ := y
      dsimp only at ey
      subst ey
      refine ⟨⟨z, v, "open", n, rs.length⟩, ?_, rfl, .inr ⟨rfl, _, _, rfl, rfl⟩⟩
      unfold writeD
      rw [es]
      dsimp only
      rw [if_neg ho]
theorem A10.free {D : Db} {n : Nat} (g : A10 D n) : freeD D := by
  intro x st e
  rcases g.top with ⟨st', e1⟩ | ⟨k, rs, st', e1⟩
  · rw [e1] at e; cases e
  · rw [e1] at e; cases e
    exact ⟨rs, rfl⟩
theorem A10.rows {D : Db} {n : Nat} {rs : List Row} (g : A10 D n) : A10 { D with rows := rs } n := ⟨g.wf, g.fl, g.e, g.lt, g.dist, g.w, g.op⟩
/-- the first write: of whom is it -/
def ownR (D : Db) (r : Row) : Prop := (r.fate = "kept" ∧ r.holder = -1) ∨ (r.fate = "open" ∧ ∃ x st, D.stack = some x :: st ∧ r.holder = x.num)
theorem A10.b10 {D : Db} {n : Nat} {r0 : Row} (g : A10 D n) (hn : n ≤ 20) (hr : D.rows = [r0]) (ho : ownR D r0) (ha : pfx "a" r0.rcd) : B10 (beginD D) D.entered D.stack D.opened r0 [] 0 0 := by
  refine ⟨rfl, rfl, hr, g.fl, g.wf, fun x hx e => ?_, ha, fun c => ?_, (fun r hr => nomatch hr), by have := g.e; omega, Nat.le_refl 0, Nat.le_refl 0⟩
  · have := g.lt x hx
    omega
  · rcases ho with ⟨h1, h2⟩ | ⟨h1, x, st, h2, h3⟩
    · have := g.op
      rw [h2] at c
      have := c.2
      omega
    · have := g.lt x (by rw [h2]; exact List.mem_cons_self)
      have := c.2
      omega
/-- no suspended transaction holds an a -/
theorem A10.hno {D : Db} {n : Nat} {r0 : Row} {rbs : List Row} (g : A10 D n) (hr : D.rows = r0 :: rbs) (ho : ownR D r0) (hb : ∀ r ∈ rbs, r.fate ≠ "open") (z : Str) : z ∉ outerL D := by
  intro hm
  obtain ⟨r, h1, h2, ⟨x, h3, h4⟩, h5⟩ := outer_mem.mp hm
  rw [hr] at h1
  rcases List.mem_cons.mp h1 with rfl | h1
  · rcases ho with ⟨q1, q2⟩ | ⟨q1, y, st, q2, q3⟩
    · rw [q1] at h2
      exact absurd h2 (by decide +kernel)
    · have di := g.dist
      rw [q2] at di h3
      exact (List.pairwise_cons.mp di).1 _ h3 y x rfl rfl (q3.symm.trans h4.symm)
  · exact hb r h1 h2
theorem fates_cons (r : Row) (rows : List Row) (rs : List Str) : fatesOf (r :: rows) rs = (if decide (r.rcd ∈ rs) = true then [r.fate] else []) ++ fatesOf rows rs := by
  unfold fatesOf
  rw [List.filter_cons]
  split <;> rfl
theorem fates_app (r1 r2 : List Row) (rs : List Str) : fatesOf (r1 ++ r2) rs = fatesOf r1 rs ++ fatesOf r2 rs := by
  unfold fatesOf
  rw [List.filter_append, List.map_append]
theorem fates_none {rows : List Row} {rs : List Str} (h : ∀ r ∈ rows, r.rcd ∉ rs) : fatesOf rows rs = [] := by
  unfold fatesOf
  rw [List.filter_eq_nil_iff.mpr fun r hr => by simp [h r hr]]
  rfl
theorem fates_all {rows : List Row} {rs : List Str} {f : Str} (h : ∀ r ∈ rows, r.rcd ∈ rs ∧ r.fate = f) : fatesOf rows rs = rows.map fun _ => f := by
  unfold fatesOf
  rw [List.filter_eq_self.mpr fun r hr => by simp [(h r hr).1]]
  exact List.map_congr_left fun r hr => (h r hr).2
theorem not_b {z : Str} {rbs : List Row} (ha : pfx "a" z) (hb : ∀ r ∈ rbs, pfx "b" r.rcd) : z ∉ rbs.map (·.rcd) := fun h => by
  obtain ⟨r, hr, e⟩ := List.mem_map.mp h
  exact pfx_ne ha (e ▸ hb r hr)
theorem not_a {rs : List Str} {rbs : List Row} (ha : ∀ z ∈ rs, pfx "a" z) (hb : ∀ r ∈ rbs, pfx "b" r.rcd) : ∀ r ∈ rbs, r.rcd ∉ rs := fun r hr h => pfx_ne (ha _ h) (hb r hr)
/-- the fates of the filled transaction's writes -/
theorem fates_rec {r0 : Row} {rbs : List Row} {f : Str} {rs : List Str} (ha : pfx "a" r0.rcd) (hb : ∀ r ∈ rbs, pfx "b" r.rcd) (hf : ∀ r ∈ rbs, r.fate = f) (e : rs = rbs.map (·.rcd)) : fatesOf (r0 :: rbs) rs = rs.map fun _ => f := by
  subst e
  rw [fates_cons, if_neg (by simpa using not_b ha hb), List.nil_append, fates_all fun r hr => ⟨List.mem_map_of_mem hr, hf r hr⟩, List.map_map]
  rfl
theorem fates_oth {r0 : Row} {rbs : List Row} (ha : pfx "a" r0.rcd) (hb : ∀ r ∈ rbs, pfx "b" r.rcd) : fatesOf (r0 :: rbs) [r0.rcd] = [r0.fate] := by
  rw [fates_cons, if_pos (by simp), fates_none (not_a (fun z hz => List.mem_singleton.mp hz ▸ ha) hb)]
  rfl
theorem fates_two {r0 r2 : Row} {rbs : List Row} (ha : pfx "a" r0.rcd) (h2 : pfx "a" r2.rcd) (hb : ∀ r ∈ rbs, pfx "b" r.rcd) : (fatesOf (r0 :: rbs ++ [r2]) [r0.rcd, r2.rcd]).length = 2 := by
  have hs : ∀ z ∈ [r0.rcd, r2.rcd], pfx "a" z := fun z hz => by
    simp only [List.mem_cons, List.not_mem_nil, or_false] at hz
    rcases hz with rfl | rfl
    · exact ha
    · exact h2
  rw [List.cons_append, fates_cons, if_pos (by simp), fates_app, fates_none (not_a hs hb), fates_cons, if_pos (by simp)]
  rfl
theorem fates_rec2 {r0 r2 : Row} {rbs : List Row} {f : Str} {rs : List Str} (ha : pfx "a" r0.rcd) (h2 : pfx "a" r2.rcd) (hb : ∀ r ∈ rbs, pfx "b" r.rcd) (hf : ∀ r ∈ rbs, r.fate = f) (e : rs = rbs.map (·.rcd)) : fatesOf (r0 :: rbs ++ [r2]) rs = rs.map fun _ => f := by
  rw [fates_app, fates_rec ha hb hf e, fates_cons, if_neg (by subst e; simpa using not_b h2 hb)]
  show _ ++ ([] ++ []) = _
  rw [List.append_nil, List.append_nil]
def endF (err y : Option Str) (b : Bool) : Str := if (err.isNone && y.isNone && b) = true then "kept" else "undone"
/-- the last leave -/
theorem B10.last {D : Db} {es : List Str} {st : List (Option Tx)} {k : Int} {r0 : Row} {rbs : List Row} {N : Nat} (g : B10 D es st k r0 rbs 0 N) (err y : Option Str) (b : Bool) {D2 : Db} (e2 : D2 = { D with stack := some ⟨k, [y]⟩ :: st }) :
    ∃ rbs', leaveD D2 err b = ({ D with stack := st, entered := es, rows := r0 :: rbs' }, endE err y b) ∧ rbs'.map (·.rcd) = rbs.map (·.rcd) ∧ ∀ r ∈ rbs', r.fate = endF err y b ∧ pfx "b" r.rcd := by
  subst e2
  obtain ⟨rows, stack, entered, floor, opened⟩ := D
  obtain ⟨e1, e2, e3, e4, g1, g2, g3, g4, g5, g6, g7, g8⟩ := g
  dsimp only at e1 e2 e3 e4
  subst e1 e2 e3 e4
  refine ⟨rbs.map (endTRow k (endF err y b)), ?_, ?_, fun r hr => ?_⟩
  · have h0 : endTRow k (endF err y b) r0 = r0 := if_neg g4
    have hlt : ¬ ((((("base" : Str) :: es).length : Nat) : Int) ≤ 0) := by
      rw [List.length_cons]; omega
    unfold leaveD
    refine (if_neg hlt).trans ?_
    show ((⟨endTRow k (endF err y b) r0 :: rbs.map (endTRow k (endF err y b)), st, es, 0, opened⟩ : Db), endE err y b) = _
    rw [h0]
  · rw [List.map_map]
    refine List.map_congr_left fun r _ => ?_
    show (endTRow k _ r).rcd = r.rcd
    unfold endTRow
    split <;> rfl
  · obtain ⟨r', hr', rfl⟩ := List.mem_map.mp hr
    obtain ⟨q1, q2, q3⟩ := g5 r' hr'
    rw [show endTRow k (endF err y b) r' = { r' with fate := endF err y b } from if_pos ⟨q1, q2⟩]
    exact ⟨rfl, q3⟩
/-! ### the law -/
theorem a10_new : A10 ⟨[], [none], [], 0, 0⟩ 0 :=
  ⟨.nil, rfl, Nat.le_refl 0, fun x hx => by simp at hx, by simp, fun x hx => by simp at hx, Int.le_refl 0⟩
/-- [f for record in records] -/
theorem lc_same {n S : Addr} {rs : List Str} {te : TE} {f : Str} {ik : Nat} {σ : L2.St} {H1 : Hp} {Qd : Hp → Prop} (hl : H1 n = some (.lst (rs.map V.str))) (hS : H1 S = none) (hz : rs.length < sizeLine)
    (hte : ∀ v H Q, Q (.str f) H → te ((wipe σ [ik]).set ik (some v)) H Q) (q : ∀ H', Same H1 H' → H' S = some (.lst ((rs.map fun _ => f).map V.str)) → Qd H') :
    ∃ W : Nat → Nat → Hp → Prop, (∃ m, W 0 m (upd H1 S (.lst []))) ∧ ∀ i m H, W i m H →
      ((Itl K n).stop i H ∧ Qd H) ∨ ((Itl K n).go i H ∧ ∃ Nx : Hp → Prop, (∀ H', Nx H' → ∃ m', m' < m ∧ W (i + 1) m' H') ∧ ∀ x H', (Itl K n).yld i H x H' → gName ik x (wipe σ [ik]) H' fun σ2 H2 => wipe σ2 [ik] = wipe σ [ik] ∧ tYes σ2 H2 fun b H3 =>
        if b = true then te σ2 H3 fun y H4 => ∃ acc, H4 S = some (.lst acc) ∧ acc.length < sizeLine ∧ Nx (upd H4 S (.lst (acc ++ [y]))) else Nx H3) := by
  refine lc_list (xs := rs.map V.str) (fun i H' => Same H1 H' ∧ H' S = some (.lst (((rs.take i).map fun _ => f).map V.str))) ?_ ?_ ?_ ?_
  · exact ⟨(Same.refl _).new hS, upd_same⟩
  · rintro i H' _ ⟨s3, _⟩
    exact SqL.of (s3 _ _ hl)
  · rintro i v H' hv ⟨s3, hS'⟩
    refine ⟨?_, ?_⟩
    · show (((σ.set ik none).set ik _).set ik none) = σ.set ik none
      rw [List.set_set, List.set_set]
    · refine hte v H' _ ⟨_, hS', ?_, s3.frsh hS, ?_⟩
      · rw [List.length_map, List.length_map, List.length_take]; omega
      · have hlt : i < rs.length := by
          rw [List.getElem?_map] at hv
          cases e : rs[i]? with
          | none => rw [e] at hv; cases hv
          | some _ => exact (List.getElem?_eq_some_iff.mp e).1
        rw [upd_same, List.take_add_one, List.getElem?_eq_getElem hlt, List.map_append, List.map_append]
        rfl
  · rintro H' ⟨s3, hS'⟩
    rw [List.length_map, List.take_length] at hS'
    exact q H' s3 hS'
theorem asc_open : asc "open" ∧ asc "kept" ∧ asc "undone" := by
  have hz : ∀ z : Str, (z.cps.toList.all fun c => decide (c < 128)) = true → Ic.asc z := fun z h c hc => of_decide_eq_true (List.all_eq_true.mp h c hc)
  exact ⟨hz _ (by decide +kernel), hz _ (by decide +kernel), hz _ (by decide +kernel)⟩
theorem sh_same {rs : List Str} {f : Str} (h : asc f) : SeqAt.shaped (.list ((rs.map fun _ => f).map PyData.str)) = true := shaped_strs fun y hy => by
  obtain ⟨_, _, e⟩ := List.mem_map.mp hy
  exact e ▸ h
theorem K10.add {a : Ad} {H0 H : Hp} {pp x qa qb b : Addr} {L : Lay} {D : Db} {ra rb : List Str} {c : Nat} {o : HO} (h : K10 a H0 pp x qa qb H L D ra rb c) (e : H b = some o) (nb : ¬ (b = pp ∨ Mut L b ∨ b = qa ∨ b = qb)) : K10 a (upd H0 b o) pp x qa qb H L D ra rb c := by
  refine ⟨fun q u z => ?_, h.pool, h.dat, h.ed, h.la, h.lb, h.nab, fun q hq => ?_, h.d1, h.d2⟩
  · by_cases hb : q = b
    · subst hb
      rw [upd_same] at z
      rw [e]; exact z
    · exact h.same q u (by rw [upd, if_neg hb] at z; exact z)
  · have hb : q ≠ b := fun z => nb (z ▸ hq)
    rw [upd, if_neg hb]
    exact h.fre q hq
def oD : Option Str → PyData
  | none => .none
  | some z => .str z
theorem dp_o {K : PySem.W.Frag} {H : Hp} : ∀ y : Option Str, Dp K H (oV y) (oD y)
  | none => .non
  | some z => .str z
theorem dp_pair {K : PySem.W.Frag} {H : Hp} {t : Addr} {z : Str} {y : Option Str} (h : H t = some (.tup [.str z, oV y])) : Dp K H (.ref t) (.tuple [.str z, oD y]) := .tup (SqT.of h) (.cons (.str _) (.cons (dp_o _) .nil))
theorem pair_eq {z : Str} {y : Option Str} (hz : PyData.strOk z = true) (hy : ∀ u, y = some u → IsWord u) : SeqAt.shaped (.tuple [.str z, oD y]) = true ∧ PyData.eqv (.tuple [.str z, oD y]) (.tuple [.str z, oD y]) = true := by
  have h1 : SeqAt.shaped (.tuple [.str z, oD y]) = true := by
    cases y with
    | none =>
      show ((PyData.strOk z && (true && true)) && decide (max 0 (max 0 0) + 1 ≤ 64)) = true
      rw [hz]; rfl
    | some u =>
      show ((PyData.strOk z && (PyData.strOk u && true)) && decide (max 0 (max 0 0) + 1 ≤ 64)) = true
      rw [asc_ok (hy u rfl).asc, hz]; rfl
  exact ⟨h1, SeqAt.eqv_refl _ (SeqAt.canLay_of_shaped h1)⟩
def spLaw (K : PySem.W.Frag) : Sp := fun vs H Q _ => ∃ (p : Addr) (ns : List Int), vs = [.ref p] ∧ SqL K H p (ns.map V.int) ∧ ns.length ≤ 63 ∧ ∀ H', Q (.bl true) H'
set_option maxHeartbeats 40000000 in
theorem ok_law (T : Txt K mg a d) : FnOk P w K mg base CX0 9 a.law d.law ["_law_script"] (spLaw K) := by
  have G_law_pool : FnOk P w K mg base CX0 1 a.law_pool d.law_pool ["_law_script", "_law_at"] (spPool K) := ok_law_pool T
  have G_law_draw : FnOk P w K mg base CX0 1 a.law_draw d.law_draw ["_law_pool_here", "_law_many"] spDraw := ok_law_draw T
  have G_law_word : FnOk P w K mg base CX0 2 a.law_word d.law_word ["_law_pool_here"] spWord := ok_law_word T
  have G_DatabaseU_initU : FnOk P w K mg base CX0 1 a.DatabaseU_initU d.DatabaseU_initU ["self"] (spDbI a) := ok_DatabaseU_initU T
  have G_law_around : FnOk P w K mg base CX0 6 a.law_around d.law_around ["_law_pool_here", "_law_db"] (spAr10 a) := ok_law_around T
  have G_law_write : FnOk P w K mg base CX0 6 a.law_write d.law_write ["_law_pool_here", "_law_db", "_law_records", "_law_prefix"] (spW10 a) := ok_law_write T
  have G_law_fates : FnOk P w K mg base CX0 5 a.law_fates d.law_fates ["_law_db", "_law_records"] (spLF a) := ok_law_fates T
  have G_law_fill : FnOk P w K mg base CX0 7 a.law_fill d.law_fill ["_law_pool_here", "_law_db", "_law_records"] (spFi10 a) := ok_law_fill T
  have G_law_leave : FnOk P w K mg base CX0 4 a.law_leave d.law_leave ["_law_db", "_law_error", "_law_goes"] (spLe10 a) := ok_law_leave T
  have G_Database_enter : FnOk P w K mg base (L2.CX P w) 5 a.Database_enter d.Database_enter ["self", "mode"] (spEnter a) := ok_Database_enter T
  have G_Database_doom : FnOk P w K mg base (L2.CX P w) 2 a.Database_doom d.Database_doom ["self", "first"] (spDoom a) := ok_Database_doom T
  have wa : IsWord "a" := wordS_of (by decide +kernel)
  refine T.law.ok sc_law (fun vs H Q E h => ?_) (fun cdv A outer s H vs Q E hr h => ?_)
  · obtain ⟨p, ns, rfl, _⟩ := h
    rfl
  · obtain ⟨sa, ns, rfl, hS, hl, k⟩ := h
    refine ⟨_, (pss_cons (ps_for PassesOwn.never rfl (pi_range1 (by rfl) T.n_range (pa_cons (pe_callB (call_max2 rfl) (by rfl) T.n_max (by decide +kernel) (pa_cons pe_int (pa_cons (pe_callB (call_min2 rfl) (by rfl) T.n_min (by decide +kernel) (pa_cons pe_int (pa_cons (pe_callB call_len_seq (by rfl) T.n_len PySem.boot_len (pa_cons (pv 0) pa_nil)) pa_nil))) pa_nil))) pa_nil)) (pg_name (i := 1) sc_law.nd rfl (Or.inl rfl))
  (pss_cons (ps_set (i := 2) sc_law.nd rfl (Or.inl rfl) (pe_call G_law_pool (hr.mono (by decide)) (by rfl) T.g_law_pool T.law_pool.kp T.b_law_pool .nil pass0 (pa_cons (pv 0) (pa_cons (pv 1) pa_nil))))
  (pss_cons (ps_par3 (i := 3) (j := 4) (l := 5) rfl sc_law.nd rfl rfl rfl (by decide) (by decide) (by decide) rfl rfl rfl (pa_cons (pe_make0 T.mk_Database G_DatabaseU_initU (hr.mono (by decide)) (by rfl) T.g_Database T.b_DatabaseU_initU .nil pass0) (pa_cons (pe_lst pa_nil) (pa_cons (pe_lst pa_nil) pa_nil))) (by rfl))
  (pss_cons (ps_set (i := 6) sc_law.nd rfl (Or.inl rfl) (pe_call G_law_around (hr.mono (by decide)) (by rfl) T.g_law_around T.law_around.kp T.b_law_around .nil pass0 (pa_cons (pv 2) (pa_cons (pv 3) pa_nil))))
  (pss_cons (ps_expr (pe_call G_law_write (hr.mono (by decide)) (by rfl) T.g_law_write T.law_write.kp T.b_law_write .nil pass0 (pa_cons (pv 2) (pa_cons (pv 3) (pa_cons (pv 5) (pa_cons pe_str pa_nil))))))
  (pss_cons (ps_set (i := 7) sc_law.nd rfl (Or.inl rfl) (pe_call G_law_fates (hr.mono (by decide)) (by rfl) T.g_law_fates T.law_fates.kp T.b_law_fates .nil pass0 (pa_cons (pv 3) (pa_cons (pv 5) pa_nil))))
  (pss_cons (ps_expr (pe_meth (pv 3) T.k_Database T.m_Database_enter G_Database_enter (hr.mono (by decide)) T.b_Database_enter .nil passL (pa_cons (pv 6) pa_nil)))
  (pss_cons (ps_expr (pe_call G_law_fill (hr.mono (by decide)) (by rfl) T.g_law_fill T.law_fill.kp T.b_law_fill .nil pass0 (pa_cons (pv 2) (pa_cons (pv 3) (pa_cons (pv 4) pa_nil)))))
  (pss_cons (ps_if (pt_cmpR (op_neD hr.units) (pe_call G_law_fates (hr.mono (by decide)) (by rfl) T.g_law_fates T.law_fates.kp T.b_law_fates .nil pass0 (pa_cons (pv 3) (pa_cons (pv 4) pa_nil))) (pe_lc (own := [("_law_record", 14)]) (tt := tYes) rfl sc_law.nd (pi_list (pv 4)) (blkOk_by (own := [("_law_record", 14)]) (N := ["_law_script", "_law_at", "_law_pool_here", "_law_db", "_law_records", "_law_others", "_law_mode", "_law_before", "_law_sort", "_law_word_here", "_law_error", "_law_goes", "_law_due", "_law_fate", "_law_record"]) (sc := defScope s_law) (by decide +kernel)) (fun _ _ _ _ _ => (pg_name (i := 14) sc_law.nd rfl (Or.inl rfl))) (fun _ _ _ _ _ => pts_nil) (fun _ _ _ _ _ => pe_str)) (nomark _)) (pss_one (ps_ret pe_bl)) pss_nil)
  (pss_cons (ps_par (i := 8) (j := 9) rfl sc_law.nd rfl rfl (by decide) rfl rfl (pa_cons (pe_call G_law_draw (hr.mono (by decide)) (by rfl) T.g_law_draw T.law_draw.kp T.b_law_draw .nil pass0 (pa_cons (pv 2) (pa_cons pe_int pa_nil))) (pa_cons (pe_call G_law_word (hr.mono (by decide)) (by rfl) T.g_law_word T.law_word.kp T.b_law_word .nil pass0 (pa_cons (pv 2) pa_nil)) pa_nil)) (by rfl))
  (pss_cons (ps_asg (pe_tup (pa_cons pe_non (pa_cons pe_bl (pa_cons (pe_tup (pa_cons pe_str (pa_cons pe_non pa_nil))) pa_nil)))) (pg_tup rfl (pgs_cons (pg_name (i := 10) sc_law.nd rfl (Or.inl rfl)) (pgs_cons (pg_name (i := 11) sc_law.nd rfl (Or.inl rfl)) (pgs_cons (pg_name (i := 12) sc_law.nd rfl (Or.inl rfl)) pgs_nil)))))
  (pss_cons (ps_if (pt_cmpR op_eq (pv 8) pe_int (nomark _)) (pss_one (ps_set (i := 10) sc_law.nd rfl (Or.inl rfl) (pv 9))) (pss_one (ps_if (pt_cmpR op_eq (pv 8) pe_int (nomark _)) (pss_one (ps_asg (pe_tup (pa_cons pe_bl (pa_cons (pe_tup (pa_cons pe_str (pa_cons pe_non pa_nil))) pa_nil))) (pg_tup rfl (pgs_cons (pg_name (i := 11) sc_law.nd rfl (Or.inl rfl)) (pgs_cons (pg_name (i := 12) sc_law.nd rfl (Or.inl rfl)) pgs_nil))))) (pss_one (ps_if (pt_cmpR op_eq (pv 8) pe_int (nomark _)) (pss_cons (ps_expr (pe_meth (pv 3) T.k_Database T.m_Database_doom G_Database_doom (hr.mono (by decide)) (bd_doom T) .nil passL (pa_cons (pv 9) pa_nil)))
  (pss_one (ps_set (i := 12) sc_law.nd rfl (Or.inl rfl) (pe_tup (pa_cons pe_str (pa_cons (pv 9) pa_nil)))))) pss_nil)))))
  (pss_cons (ps_if (pt_cmpR (op_neD hr.units) (pe_call G_law_leave (hr.mono (by decide)) (by rfl) T.g_law_leave T.law_leave.kp T.b_law_leave .nil pass0 (pa_cons (pv 3) (pa_cons (pv 10) (pa_cons (pv 11) pa_nil)))) (pv 12) (nomark _)) (pss_one (ps_ret pe_bl)) pss_nil)
  (pss_cons (ps_set (i := 13) sc_law.nd rfl (Or.inr rfl) (pe_ifExp (pt_cmpR op_in_seq (pv 8) (pe_lst (pa_cons pe_int (pa_cons pe_int (pa_cons pe_int pa_nil)))) (by rfl)) pe_str pe_str))
  (pss_cons (ps_if (pt_cmpR (op_neD hr.units) (pe_call G_law_fates (hr.mono (by decide)) (by rfl) T.g_law_fates T.law_fates.kp T.b_law_fates .nil pass0 (pa_cons (pv 3) (pa_cons (pv 4) pa_nil))) (pe_lc (own := [("_law_record", 14)]) (tt := tYes) rfl sc_law.nd (pi_list (pv 4)) (blkOk_by (own := [("_law_record", 14)]) (N := ["_law_script", "_law_at", "_law_pool_here", "_law_db", "_law_records", "_law_others", "_law_mode", "_law_before", "_law_sort", "_law_word_here", "_law_error", "_law_goes", "_law_due", "_law_fate", "_law_record"]) (sc := defScope s_law) (by decide +kernel)) (fun _ _ _ _ _ => (pg_name (i := 14) sc_law.nd rfl (Or.inl rfl))) (fun _ _ _ _ _ => pts_nil) (fun _ _ _ _ _ => (pv 13))) (nomark _)) (pss_one (ps_ret pe_bl)) pss_nil)
  (pss_cons (ps_if (pt_cmpR (op_neD hr.units) (pe_call G_law_fates (hr.mono (by decide)) (by rfl) T.g_law_fates T.law_fates.kp T.b_law_fates .nil pass0 (pa_cons (pv 3) (pa_cons (pv 5) pa_nil))) (pv 7) (nomark _)) (pss_one (ps_ret pe_bl)) pss_nil)
  (pss_cons (ps_expr (pe_call G_law_write (hr.mono (by decide)) (by rfl) T.g_law_write T.law_write.kp T.b_law_write .nil pass0 (pa_cons (pv 2) (pa_cons (pv 3) (pa_cons (pv 5) (pa_cons pe_str pa_nil))))))
  (pss_one (ps_if (PW.pt (pw_or (pt_cmpR (op_neD hr.units) (pe_call G_law_fates (hr.mono (by decide)) (by rfl) T.g_law_fates T.law_fates.kp T.b_law_fates .nil pass0 (pa_cons (pv 3) (pa_cons (pv 4) pa_nil))) (pe_lc (own := [("_law_record", 14)]) (tt := tYes) rfl sc_law.nd (pi_list (pv 4)) (blkOk_by (own := [("_law_record", 14)]) (N := ["_law_script", "_law_at", "_law_pool_here", "_law_db", "_law_records", "_law_others", "_law_mode", "_law_before", "_law_sort", "_law_word_here", "_law_error", "_law_goes", "_law_due", "_law_fate", "_law_record"]) (sc := defScope s_law) (by decide +kernel)) (fun _ _ _ _ _ => (pg_name (i := 14) sc_law.nd rfl (Or.inl rfl))) (fun _ _ _ _ _ => pts_nil) (fun _ _ _ _ _ => (pv 13))) (nomark _)) (pw_or1 (pt_cmpR op_ne (pe_callB call_len_seq (by rfl) T.n_len PySem.boot_len (pa_cons (pe_call G_law_fates (hr.mono (by decide)) (by rfl) T.g_law_fates T.law_fates.kp T.b_law_fates .nil pass0 (pa_cons (pv 3) (pa_cons (pv 5) pa_nil))) pa_nil)) pe_int (nomark _))))) (pss_one (ps_ret pe_bl)) pss_nil)))))))))))))))))))
  (pss_one (ps_ret pe_bl))), ?_⟩
    dsimp only [cxOf]
    walk_at "rd"
    refine for_range (fun i σ H1 => i ≤ 63 ∧ Same H H1 ∧ ∃ v1 v2 v3 v4 v5 v6 v7 v8 v9 v10 v11 v12 v13 v14, σ = [some (.ref sa), v1, v2, v3, v4, v5, v6, v7, v8, v9, v10, v11, v12, v13, v14]) ?_ ?_ ?_
    · exact ⟨by omega, Same.refl H, _, _, _, _, _, _, _, _, _, _, _, _, _, _, rfl⟩
    · rintro i σ H1 hi ⟨h12, s1, v1, v2, v3, v4, v5, v6, v7, v8, v9, v10, v11, v12, v13, v14, rfl⟩
      have hi12 : i < 63 := by revert hi; split <;> split <;> omega
      refine ⟨_, rfl, _, rfl, sa, ns, i, ?_, s1.seq hS, by omega, fun p o hp ho => ?_⟩
      · rw [Int.zero_add]; rfl
      walk_at "rd"
      intro x dx hx hdx nxd
      refine ⟨x, dx, rfl, upd_same, fun H2 L hD el kp mt => ⟨rfl, ?_⟩⟩
      obtain ⟨nxp, hx1⟩ := none_upd hx
      have s2 : Same (upd H1 p o) H2 := fun b u e => kp b u (upd_oth (ne_of_none e hx) (upd_oth (ne_of_none e hdx) e)) (ne_of_none e hx)
      have s12 : Same H H2 := (s1.new hp).trans s2
      have hp2 : H2 p = some o := s2 _ _ upd_same
      have mt0 : ∀ b, Mut L b → H b = none ∧ b ≠ p := fun b hb => by
        rcases mt b hb with rfl | z
        · exact ⟨s1.free hx1, nxp⟩
        · obtain ⟨z1, z⟩ := none_upd z
          obtain ⟨z2, z⟩ := none_upd z
          exact ⟨(s1.new hp).free z, (none_upd z).1⟩
      walk_at "rd"
      intro n1 g1
      walk_at "rd"
      intro n2 g2
      walk_at "rd"
      have q12 := ne_of_none (upd_same (H := H2) (a := n1) (o := .lst [])) g2
      have I0 : K10 a H p x n1 n2 (upd (upd H2 n1 (.lst [])) n2 (.lst [])) L ⟨[], [none], [], 0, 0⟩ [] [] 0 := by
        refine ⟨(s12.new (o := .lst []) g1).new (o := .lst []) g2, ⟨o, upd_old (upd_old hp2 g1) g2, ho⟩, (hD.new g1).new g2, el, upd_old upd_same g2, upd_same, q12, fun b hb => ?_, fun b hb => ?_, fun z => (mt0 p z).2 rfl⟩
        · rcases hb with rfl | hb | rfl | rfl
          · exact s1.free hp
          · exact (mt0 b hb).1
          · exact s12.free g1
          · exact s12.free (none_upd g2).2
        · rcases hb with rfl | rfl
          · exact ⟨hD.fresh g1, fun e => by rw [e, hp2] at g1; cases g1⟩
          · exact ⟨hD.fresh (none_upd g2).2, fun e => by rw [e, upd_old hp2 g1] at g2; cases g2⟩
      generalize upd (upd H2 n1 (.lst [])) n2 (.lst []) = H3 at I0 ⊢
      refine ⟨H, p, x, n1, n2, L, _, [], [], 0, rfl, I0, a10_new, rfl, by omega, fun H4 L4 D4 m I4 g4 hr4 hm4 hop => ?_⟩
      -- the first write
      walk_at "rd"
      refine ⟨H, p, x, n2, n1, L4, D4, [], [], _, "a", rfl, wa, rfl, I4.swap, g4.sm (by omega) (by rw [hr4]; simp), g4.wf.ne, g4.free, fun z _ hz => ?_, by simp, by omega, fun H5 L5 z5 i5 wz5 wp5 I5 => ?_⟩
      · obtain ⟨r, hr, _⟩ := outer_mem.mp hz
        rw [hr4] at hr; cases hr
      have hno4 : z5 ∉ outerL D4 := fun hz => by
        obtain ⟨r, hr, _⟩ := outer_mem.mp hz
        rw [hr4] at hr; cases hr
      obtain ⟨r0, eW, er0, ow0⟩ := wr_row (v := .int i5) g4.wf.ne g4.free hno4
      have I5 := I5.swap
      rw [eW] at I5
      have g5 : A10 (addD D4 r0) 4 := g4.rows
      have hr5 : (addD D4 r0).rows = [r0] := by show D4.rows ++ [r0] = _; rw [hr4]; rfl
      have ow5 : ownR (addD D4 r0) r0 := ow0
      have ha0 : pfx "a" r0.rcd := er0 ▸ wp5
      have wz0 : IsWord r0.rcd := er0 ▸ wz5
      have hop5 : (openD (addD D4 r0) = true ∧ m = "apart") ∨ (openD (addD D4 r0) = false ∧ m ∈ newOk) := hop
      rw [show ([] : List Str) ++ [z5] = [r0.rcd] by rw [er0]; rfl] at I5
      generalize addD D4 r0 = D5 at I5 g5 hr5 ow5 hop5
      clear hno4 eW I4 g4 hr4 hop ow0
      -- its fate
      walk_at "rd"
      refine ⟨L5, D5, n2, [r0.rcd], by rw [I5.ed]; rfl, I5.dat, g5.sm (by omega) (by rw [hr5]; simp), I5.lb, fun H6 p6 s6 hp6 f6 => ?_⟩
      have I6 := I5.keep s6
      rw [hr5, fates_oth (rbs := []) ha0 (fun r hr => nomatch hr)] at hp6
      have I6 := I6.add hp6 (fun q => by
        rcases q with q | q | q | q
        · obtain ⟨o, h1, _⟩ := I5.pool
          rw [q, h1] at f6; cases f6
        · exact I5.dat.fresh f6 q
        · rw [q, I5.la] at f6; cases f6
        · rw [q, I5.lb] at f6; cases f6)
      have fp6 : H p6 = none := I5.same.free f6
      have hb0 := upd_same (H := H) (a := p6) (o := .lst (([r0.fate] : List Str).map V.str))
      have sb : Same H (upd H p6 (.lst (([r0.fate] : List Str).map V.str))) := (Same.refl H).new fp6
      generalize upd H p6 (.lst (([r0.fate] : List Str).map V.str)) = B0 at I6 hb0 sb
      have hx6 := I6.dat.db
      rw [I6.ed] at hx6
      walk_at "rd"
      refine ⟨L5, D5, .str m, by rw [I6.ed]; rfl, mode_thing hm4, I6.dat, g5.sm (by omega) (by rw [hr5]; simp), fun H7 L7 hD7 f7 => ?_⟩
      have I7 := I6.db hD7 f7
      rw [enterV_mode hm4, g5.opens hop5] at I7 ⊢
      have b7 := g5.b10 (by omega) hr5 ow5 ha0
      have fi : spFi10 a [.ref x, .ref x] H7 (fun _ _ => True) E0 → True := fun _ => trivial
      clear fi
      walk_at "rd"
      refine ⟨B0, p, x, n1, n2, L7, _, [r0.rcd], _, _, _, _, r0, rfl, I7, b7, by omega, fun H8 L8 D8 rbs I8 b8 => ?_⟩
      clear I7 b7 hD7 f7
      have hb8 : ∀ r ∈ rbs, pfx "b" r.rcd := fun r hr => (b8.rb r hr).2.2
      walk_at "rd"
      refine ⟨L8, D8, n1, rbs.map (·.rcd), by rw [I8.ed]; rfl, I8.dat, b8.sm (by omega), I8.la, fun H9 p9 s9 hp9 f9 => ?_⟩
      have I9 := I8.keep s9
      rw [b8.rows, fates_rec ha0 hb8 (f := "open") (fun r hr => (b8.rb r hr).1) rfl] at hp9
      walk_at "rd"
      have la9 := I9.la
      have zl : (rbs.map (·.rcd)).length < sizeLine := by rw [List.length_map, sizeLine_eq]; have := b8.sr; omega
      refine ⟨⟨_, SqL.of la9⟩, fun S hS => lc_same (f := "open") la9 hS zl (fun v H Q h => h) fun H10 s10 hS10 => ?_⟩
      have I10 := I9.keep s10
      have sh1 := sh_same (rs := rbs.map (·.rcd)) asc_open.1
      refine ⟨_, _, .lst (SqL.of (s10 _ _ hp9)) (dp_strs _), .lst (SqL.of hS10) (dp_strs _), sh1, sh1, ?_⟩
      rw [SeqAt.eqv_refl _ (SeqAt.canLay_of_shaped sh1)]
      obtain ⟨o10, hp10, ho10⟩ := I10.pool
      walk_at "rd"
      intro r11 o11 r110 r111 h11
      have I11 := I10.draw (o' := o11) Kp.refl.set1 upd_same h11
      generalize upd H10 p o11 = H11 at I11 ⊢
      obtain ⟨o11, hp11, ho11⟩ := I11.pool
      walk_at "rd"
      intro w12 o12 H12 hw12 h12 hp12 kp12
      have I12 := I11.draw kp12 hp12 h12
      walk_at "rd"
      intro t1 ht1
      walk_at "rd"
      intro t2 ht2
      have I13 := (I12.keep ((Same.refl _).new (o := .tup [.str "", .non]) ht1)).keep ((Same.refl _).new (o := .tup [.non, .bl true, .ref t1]) ht2)
      have ht1' := upd_old (o := .tup [.non, .bl true, .ref t1]) (upd_same (H := H12) (a := t1) (o := .tup [.str "", .non])) ht2
      have ht2' := upd_same (H := upd H12 t1 (.tup [.str "", .non])) (a := t2) (o := .tup [.non, .bl true, .ref t1])
      generalize upd (upd H12 t1 (.tup [.str "", .non])) t2 (.tup [.non, .bl true, .ref t1]) = H13 at I13 ht1' ht2' ⊢
      have asc0 : asc r0.fate := by
        rcases ow5 with ⟨q, _⟩ | ⟨q, _⟩
        · rw [q]; exact asc_open.2.1
        · rw [q]; exact asc_open.1
      have sm8 : Sm D8 := b8.sm (by omega)
      have fl8 := b8.fl
      have wf8 := b8.wfD
      have hr5 : r11 = 0 ∨ r11 = 1 ∨ r11 = 2 ∨ r11 = 3 ∨ r11 = 4 := by omega
      rcases hr5 with rfl | rfl | rfl | rfl | rfl
      · walk_at "rd"
        obtain ⟨rbs', eL, em, hf'⟩ := b8.last none none true (D2 := D8) (by have := b8.stk; cases D8; dsimp only at this; subst this; rfl)
        have hb' : ∀ r ∈ rbs', pfx "b" r.rcd := fun r hr => (hf' r hr).2
        have hff : ∀ r ∈ rbs', r.fate = "kept" := fun r hr => (hf' r hr).1
        have hl' : rbs'.length ≤ 60 := by
          have := congrArg List.length em
          rw [List.length_map, List.length_map] at this
          rw [this]; exact b8.sr
        obtain ⟨due1, due2⟩ := pair_eq (z := "") (y := none) (by decide +kernel) (fun u e => nomatch e)
        walk_at "rd"
        refine ⟨B0, p, x, n1, n2, L8, D8, _, _, _, none, true, rfl, (fun z e => nomatch e), I13, sm8, fl8, wf8, by rw [eL]; trivial, fun H20 L20 t20 I20 ht20 tp20 => ?_⟩
        rw [eL] at I20 ht20
        have htd20 := tp20 _ _ ht1'
        walk_at "rd"
        refine ⟨_, _, dp_pair (z := "") (y := none) ht20, dp_pair (z := "") (y := none) htd20, due1, due1, ?_⟩
        rw [due2]
        dsimp only at I20
        rw [← em] at I20
        have sm20 : Sm ({ D8 with stack := D5.stack, entered := D5.entered, rows := r0 :: rbs' } : Db) := by
          have h := (g5.rows (rs := r0 :: rbs')).sm (by omega) (by show (r0 :: rbs').length ≤ 4000; rw [List.length_cons]; omega)
          exact ⟨h.e, h.s, h.r, h.n⟩
        generalize eD20 : ({ D8 with stack := D5.stack, entered := D5.entered, rows := r0 :: rbs' } : Db) = D20 at I20 sm20
        have hr20 : D20.rows = r0 :: rbs' := by rw [← eD20]
        have st20 : D20.stack = D5.stack := by rw [← eD20]
        have fr20 : freeD D20 := fun y st e => g5.free y st (st20 ▸ e)
        have no20 : ∀ z, z ∉ outerL D20 := fun z hz => by
          have h := (g5.rows (rs := r0 :: rbs')).hno (r0 := r0) (rbs := rbs') rfl ow5 (fun r hr => by rw [hff r hr]; decide +kernel) z
          refine h ?_
          have e : outerL D20 = outerL ({ D5 with rows := r0 :: rbs' } : Db) := by unfold outerL; rw [hr20, st20]
          rwa [e] at hz
        walk_at "rd"
        intro n21 g21
        have I21 := I20.keep ((Same.refl _).new (o := .lst [.int 1, .int 2, .int 3]) g21)
        have hn21 := upd_same (H := H20) (a := n21) (o := .lst [.int 1, .int 2, .int 3])
        generalize upd H20 n21 (.lst [.int 1, .int 2, .int 3]) = H21 at I21 hn21 ⊢
        walk_at "rd"
        refine ⟨L20, D20, n1, rbs'.map (·.rcd), by rw [I21.ed]; rfl, I21.dat, sm20, I21.la, fun H22 p22 s22 hp22 f22 => ?_⟩
        have I22 := I21.keep s22
        rw [hr20, fates_rec ha0 hb' hff rfl] at hp22
        have la22 := I22.la
        have zl' : (rbs'.map (·.rcd)).length < sizeLine := by rw [List.length_map, sizeLine_eq]; omega
        walk_at "rd"
        refine ⟨⟨_, SqL.of la22⟩, fun S hS => lc_same (f := "kept") la22 hS zl' (fun v H Q h => ⟨_, rfl, h⟩) fun H23 s23 hS23 => ?_⟩
        have I23 := I22.keep s23
        have sh23 := sh_same (rs := rbs'.map (·.rcd)) (f := "kept") asc_open.2.1
        refine ⟨_, _, .lst (SqL.of (s23 _ _ hp22)) (dp_strs _), .lst (SqL.of hS23) (dp_strs _), sh23, sh23, ?_⟩
        rw [SeqAt.eqv_refl _ (SeqAt.canLay_of_shaped sh23)]
        walk_at "rd"
        refine ⟨L20, D20, n2, [r0.rcd], by rw [I23.ed]; rfl, I23.dat, sm20, I23.lb, fun H24 p24 s24 hp24 f24 => ?_⟩
        have I24 := I23.keep s24
        rw [hr20, fates_oth ha0 hb'] at hp24
        have hq24 := I24.same _ _ hb0
        have sh24 : SeqAt.shaped (.list (([r0.fate] : List Str).map PyData.str)) = true := shaped_strs fun y hy => List.mem_singleton.mp hy ▸ asc0
        walk_at "rd"
        refine ⟨_, _, .lst (SqL.of hp24) (dp_strs _), .lst (SqL.of hq24) (dp_strs _), sh24, sh24, ?_⟩
        rw [SeqAt.eqv_refl _ (SeqAt.canLay_of_shaped sh24)]
        walk_at "rd"
        refine ⟨B0, p, x, n2, n1, L20, D20, [r0.rcd], _, _, "a", rfl, wa, rfl, I24.swap, sm20, by rw [st20]; exact g5.wf.ne, fr20, fun z _ => no20 z, by simp, by omega, fun H25 L25 z25 i25 wz25 wp25 I25 => ?_⟩
        obtain ⟨r2, eW2, er2, _⟩ := wr_row (v := .int i25) (by rw [st20]; exact g5.wf.ne) fr20 (no20 z25)
        have I25 := I25.swap
        rw [eW2] at I25
        have hr25 : (addD D20 r2).rows = r0 :: rbs' ++ [r2] := by show D20.rows ++ [r2] = _; rw [hr20]
        have ha2 : pfx "a" r2.rcd := er2 ▸ wp25
        have sm25 : Sm (addD D20 r2) := ⟨sm20.e, sm20.s, sm20.r, by rw [hr25]; simp only [List.length_append, List.length_cons, List.length_nil]; omega⟩
        rw [show [r0.rcd] ++ [z25] = [r0.rcd, r2.rcd] by rw [er2]; rfl] at I25
        generalize addD D20 r2 = D25 at I25 hr25 sm25
        walk_at "rd"
        refine ⟨L25, D25, n1, rbs'.map (·.rcd), by rw [I25.ed]; rfl, I25.dat, sm25, I25.la, fun H26 p26 s26 hp26 f26 => ?_⟩
        have I26 := I25.keep s26
        rw [hr25, fates_rec2 ha0 ha2 hb' hff rfl] at hp26
        have la26 := I26.la
        walk_at "rd"
        refine ⟨⟨_, SqL.of la26⟩, fun S hS => lc_same (f := "kept") la26 hS zl' (fun v H Q h => ⟨_, rfl, h⟩) fun H27 s27 hS27 => ?_⟩
        have I27 := I26.keep s27
        refine ⟨_, _, .lst (SqL.of (s27 _ _ hp26)) (dp_strs _), .lst (SqL.of hS27) (dp_strs _), sh23, sh23, ?_⟩
        rw [SeqAt.eqv_refl _ (SeqAt.canLay_of_shaped sh23)]
        walk_at "rd"
        refine ⟨L25, D25, n2, [r0.rcd, r2.rcd], by rw [I27.ed]; rfl, I27.dat, sm25, I27.lb, fun H28 p28 s28 hp28 f28 => ?_⟩
        have I28 := I27.keep s28
        rw [hr25] at hp28
        refine ⟨p28, _, rfl, .inl (SqL.of hp28), ?_⟩
        rw [List.length_map, fates_two ha0 ha2 hb']
        have zs : Same H H28 := sb.trans I28.same
        walk_at "rd"
        first
          | exact ⟨_, _, _, _, _, _, _, _, _, _, _, _, _, _, rfl⟩
          | exact ⟨zs, _, _, _, _, _, _, _, _, _, _, _, _, _, _, rfl⟩
          | exact ⟨by omega, zs, _, _, _, _, _, _, _, _, _, _, _, _, _, _, rfl⟩
      · walk_at "rd"
        obtain ⟨rbs', eL, em, hf'⟩ := b8.last (some w12) none true (D2 := D8) (by have := b8.stk; cases D8; dsimp only at this; subst this; rfl)
        have hb' : ∀ r ∈ rbs', pfx "b" r.rcd := fun r hr => (hf' r hr).2
        have hff : ∀ r ∈ rbs', r.fate = "undone" := fun r hr => (hf' r hr).1
        have hl' : rbs'.length ≤ 60 := by
          have := congrArg List.length em
          rw [List.length_map, List.length_map] at this
          rw [this]; exact b8.sr
        obtain ⟨due1, due2⟩ := pair_eq (z := "") (y := none) (by decide +kernel) (fun u e => nomatch e)
        walk_at "rd"
        refine ⟨B0, p, x, n1, n2, L8, D8, _, _, _, (some w12), true, rfl, (fun z e => Option.some.inj e ▸ hw12), I13, sm8, fl8, wf8, by rw [eL]; trivial, fun H20 L20 t20 I20 ht20 tp20 => ?_⟩
        rw [eL] at I20 ht20
        have htd20 := tp20 _ _ ht1'
        walk_at "rd"
        refine ⟨_, _, dp_pair (z := "") (y := none) ht20, dp_pair (z := "") (y := none) htd20, due1, due1, ?_⟩
        rw [due2]
        dsimp only at I20
        rw [← em] at I20
        have sm20 : Sm ({ D8 with stack := D5.stack, entered := D5.entered, rows := r0 :: rbs' } : Db) := by
          have h := (g5.rows (rs := r0 :: rbs')).sm (by omega) (by show (r0 :: rbs').length ≤ 4000; rw [List.length_cons]; omega)
          exact ⟨h.e, h.s, h.r, h.n⟩
        generalize eD20 : ({ D8 with stack := D5.stack, entered := D5.entered, rows := r0 :: rbs' } : Db) = D20 at I20 sm20
        have hr20 : D20.rows = r0 :: rbs' := by rw [← eD20]
        have st20 : D20.stack = D5.stack := by rw [← eD20]
        have fr20 : freeD D20 := fun y st e => g5.free y st (st20 ▸ e)
        have no20 : ∀ z, z ∉ outerL D20 := fun z hz => by
          have h := (g5.rows (rs := r0 :: rbs')).hno (r0 := r0) (rbs := rbs') rfl ow5 (fun r hr => by rw [hff r hr]; decide +kernel) z
          refine h ?_
          have e : outerL D20 = outerL ({ D5 with rows := r0 :: rbs' } : Db) := by unfold outerL; rw [hr20, st20]
          rwa [e] at hz
        walk_at "rd"
        intro n21 g21
        have I21 := I20.keep ((Same.refl _).new (o := .lst [.int 1, .int 2, .int 3]) g21)
        have hn21 := upd_same (H := H20) (a := n21) (o := .lst [.int 1, .int 2, .int 3])
        generalize upd H20 n21 (.lst [.int 1, .int 2, .int 3]) = H21 at I21 hn21 ⊢
        walk_at "rd"
        refine ⟨L20, D20, n1, rbs'.map (·.rcd), by rw [I21.ed]; rfl, I21.dat, sm20, I21.la, fun H22 p22 s22 hp22 f22 => ?_⟩
        have I22 := I21.keep s22
        rw [hr20, fates_rec ha0 hb' hff rfl] at hp22
        have la22 := I22.la
        have zl' : (rbs'.map (·.rcd)).length < sizeLine := by rw [List.length_map, sizeLine_eq]; omega
        walk_at "rd"
        refine ⟨⟨_, SqL.of la22⟩, fun S hS => lc_same (f := "undone") la22 hS zl' (fun v H Q h => ⟨_, rfl, h⟩) fun H23 s23 hS23 => ?_⟩
        have I23 := I22.keep s23
        have sh23 := sh_same (rs := rbs'.map (·.rcd)) (f := "undone") asc_open.2.2
        refine ⟨_, _, .lst (SqL.of (s23 _ _ hp22)) (dp_strs _), .lst (SqL.of hS23) (dp_strs _), sh23, sh23, ?_⟩
        rw [SeqAt.eqv_refl _ (SeqAt.canLay_of_shaped sh23)]
        walk_at "rd"
        refine ⟨L20, D20, n2, [r0.rcd], by rw [I23.ed]; rfl, I23.dat, sm20, I23.lb, fun H24 p24 s24 hp24 f24 => ?_⟩
        have I24 := I23.keep s24
        rw [hr20, fates_oth ha0 hb'] at hp24
        have hq24 := I24.same _ _ hb0
        have sh24 : SeqAt.shaped (.list (([r0.fate] : List Str).map PyData.str)) = true := shaped_strs fun y hy => List.mem_singleton.mp hy ▸ asc0
        walk_at "rd"
        refine ⟨_, _, .lst (SqL.of hp24) (dp_strs _), .lst (SqL.of hq24) (dp_strs _), sh24, sh24, ?_⟩
        rw [SeqAt.eqv_refl _ (SeqAt.canLay_of_shaped sh24)]
        walk_at "rd"
        refine ⟨B0, p, x, n2, n1, L20, D20, [r0.rcd], _, _, "a", rfl, wa, rfl, I24.swap, sm20, by rw [st20]; exact g5.wf.ne, fr20, fun z _ => no20 z, by simp, by omega, fun H25 L25 z25 i25 wz25 wp25 I25 => ?_⟩
        obtain ⟨r2, eW2, er2, _⟩ := wr_row (v := .int i25) (by rw [st20]; exact g5.wf.ne) fr20 (no20 z25)
        have I25 := I25.swap
        rw [eW2] at I25
        have hr25 : (addD D20 r2).rows = r0 :: rbs' ++ [r2] := by show D20.rows ++ [r2] = _; rw [hr20]
        have ha2 : pfx "a" r2.rcd := er2 ▸ wp25
        have sm25 : Sm (addD D20 r2) := ⟨sm20.e, sm20.s, sm20.r, by rw [hr25]; simp only [List.length_append, List.length_cons, List.length_nil]; omega⟩
        rw [show [r0.rcd] ++ [z25] = [r0.rcd, r2.rcd] by rw [er2]; rfl] at I25
        generalize addD D20 r2 = D25 at I25 hr25 sm25
        walk_at "rd"
        refine ⟨L25, D25, n1, rbs'.map (·.rcd), by rw [I25.ed]; rfl, I25.dat, sm25, I25.la, fun H26 p26 s26 hp26 f26 => ?_⟩
        have I26 := I25.keep s26
        rw [hr25, fates_rec2 ha0 ha2 hb' hff rfl] at hp26
        have la26 := I26.la
        walk_at "rd"
        refine ⟨⟨_, SqL.of la26⟩, fun S hS => lc_same (f := "undone") la26 hS zl' (fun v H Q h => ⟨_, rfl, h⟩) fun H27 s27 hS27 => ?_⟩
        have I27 := I26.keep s27
        refine ⟨_, _, .lst (SqL.of (s27 _ _ hp26)) (dp_strs _), .lst (SqL.of hS27) (dp_strs _), sh23, sh23, ?_⟩
        rw [SeqAt.eqv_refl _ (SeqAt.canLay_of_shaped sh23)]
        walk_at "rd"
        refine ⟨L25, D25, n2, [r0.rcd, r2.rcd], by rw [I27.ed]; rfl, I27.dat, sm25, I27.lb, fun H28 p28 s28 hp28 f28 => ?_⟩
        have I28 := I27.keep s28
        rw [hr25] at hp28
        refine ⟨p28, _, rfl, .inl (SqL.of hp28), ?_⟩
        rw [List.length_map, fates_two ha0 ha2 hb']
        have zs : Same H H28 := sb.trans I28.same
        walk_at "rd"
        first
          | exact ⟨_, _, _, _, _, _, _, _, _, _, _, _, _, _, rfl⟩
          | exact ⟨zs, _, _, _, _, _, _, _, _, _, _, _, _, _, _, rfl⟩
          | exact ⟨by omega, zs, _, _, _, _, _, _, _, _, _, _, _, _, _, _, rfl⟩
      · walk_at "rd"
        intro t3 ht3
        walk_at "rd"
        intro t4 ht4
        have I14 := (I13.keep ((Same.refl _).new (o := .tup [.str "refused", .non]) ht3)).keep ((Same.refl _).new (o := .tup [.bl false, .ref t3]) ht4)
        have ht3' := upd_old (o := .tup [.bl false, .ref t3]) (upd_same (H := H13) (a := t3) (o := .tup [.str "refused", .non])) ht4
        have ht4' := upd_same (H := upd H13 t3 (.tup [.str "refused", .non])) (a := t4) (o := .tup [.bl false, .ref t3])
        generalize upd (upd H13 t3 (.tup [.str "refused", .non])) t4 (.tup [.bl false, .ref t3]) = H14 at I14 ht3' ht4' ⊢
        walk_at "rd"
        obtain ⟨rbs', eL, em, hf'⟩ := b8.last none none false (D2 := D8) (by have := b8.stk; cases D8; dsimp only at this; subst this; rfl)
        have hb' : ∀ r ∈ rbs', pfx "b" r.rcd := fun r hr => (hf' r hr).2
        have hff : ∀ r ∈ rbs', r.fate = "undone" := fun r hr => (hf' r hr).1
        have hl' : rbs'.length ≤ 60 := by
          have := congrArg List.length em
          rw [List.length_map, List.length_map] at this
          rw [this]; exact b8.sr
        obtain ⟨due1, due2⟩ := pair_eq (z := "refused") (y := none) (by decide +kernel) (fun u e => nomatch e)
        walk_at "rd"
        refine ⟨B0, p, x, n1, n2, L8, D8, _, _, _, none, false, rfl, (fun z e => nomatch e), I14, sm8, fl8, wf8, by rw [eL]; trivial, fun H20 L20 t20 I20 ht20 tp20 => ?_⟩
        rw [eL] at I20 ht20
        have htd20 := tp20 _ _ ht3'
        walk_at "rd"
        refine ⟨_, _, dp_pair (z := "refused") (y := none) ht20, dp_pair (z := "refused") (y := none) htd20, due1, due1, ?_⟩
        rw [due2]
        dsimp only at I20
        rw [← em] at I20
        have sm20 : Sm ({ D8 with stack := D5.stack, entered := D5.entered, rows := r0 :: rbs' } : Db) := by
          have h := (g5.rows (rs := r0 :: rbs')).sm (by omega) (by show (r0 :: rbs').length ≤ 4000; rw [List.length_cons]; omega)
          exact ⟨h.e, h.s, h.r, h.n⟩
        generalize eD20 : ({ D8 with stack := D5.stack, entered := D5.entered, rows := r0 :: rbs' } : Db) = D20 at I20 sm20
        have hr20 : D20.rows = r0 :: rbs' := by rw [← eD20]
        have st20 : D20.stack = D5.stack := by rw [← eD20]
        have fr20 : freeD D20 := fun y st e => g5.free y st (st20 ▸ e)
        have no20 : ∀ z, z ∉ outerL D20 := fun z hz => by
          have h := (g5.rows (rs := r0 :: rbs')).hno (r0 := r0) (rbs := rbs') rfl ow5 (fun r hr => by rw [hff r hr]; decide +kernel) z
          refine h ?_
          have e : outerL D20 = outerL ({ D5 with rows := r0 :: rbs' } : Db) := by unfold outerL; rw [hr20, st20]
          rwa [e] at hz
        walk_at "rd"
        intro n21 g21
        have I21 := I20.keep ((Same.refl _).new (o := .lst [.int 1, .int 2, .int 3]) g21)
        have hn21 := upd_same (H := H20) (a := n21) (o := .lst [.int 1, .int 2, .int 3])
        generalize upd H20 n21 (.lst [.int 1, .int 2, .int 3]) = H21 at I21 hn21 ⊢
        walk_at "rd"
        refine ⟨L20, D20, n1, rbs'.map (·.rcd), by rw [I21.ed]; rfl, I21.dat, sm20, I21.la, fun H22 p22 s22 hp22 f22 => ?_⟩
        have I22 := I21.keep s22
        rw [hr20, fates_rec ha0 hb' hff rfl] at hp22
        have la22 := I22.la
        have zl' : (rbs'.map (·.rcd)).length < sizeLine := by rw [List.length_map, sizeLine_eq]; omega
        walk_at "rd"
        refine ⟨⟨_, SqL.of la22⟩, fun S hS => lc_same (f := "undone") la22 hS zl' (fun v H Q h => ⟨_, rfl, h⟩) fun H23 s23 hS23 => ?_⟩
        have I23 := I22.keep s23
        have sh23 := sh_same (rs := rbs'.map (·.rcd)) (f := "undone") asc_open.2.2
        refine ⟨_, _, .lst (SqL.of (s23 _ _ hp22)) (dp_strs _), .lst (SqL.of hS23) (dp_strs _), sh23, sh23, ?_⟩
        rw [SeqAt.eqv_refl _ (SeqAt.canLay_of_shaped sh23)]
        walk_at "rd"
        refine ⟨L20, D20, n2, [r0.rcd], by rw [I23.ed]; rfl, I23.dat, sm20, I23.lb, fun H24 p24 s24 hp24 f24 => ?_⟩
        have I24 := I23.keep s24
        rw [hr20, fates_oth ha0 hb'] at hp24
        have hq24 := I24.same _ _ hb0
        have sh24 : SeqAt.shaped (.list (([r0.fate] : List Str).map PyData.str)) = true := shaped_strs fun y hy => List.mem_singleton.mp hy ▸ asc0
        walk_at "rd"
        refine ⟨_, _, .lst (SqL.of hp24) (dp_strs _), .lst (SqL.of hq24) (dp_strs _), sh24, sh24, ?_⟩
        rw [SeqAt.eqv_refl _ (SeqAt.canLay_of_shaped sh24)]
        walk_at "rd"
        refine ⟨B0, p, x, n2, n1, L20, D20, [r0.rcd], _, _, "a", rfl, wa, rfl, I24.swap, sm20, by rw [st20]; exact g5.wf.ne, fr20, fun z _ => no20 z, by simp, by omega, fun H25 L25 z25 i25 wz25 wp25 I25 => ?_⟩
        obtain ⟨r2, eW2, er2, _⟩ := wr_row (v := .int i25) (by rw [st20]; exact g5.wf.ne) fr20 (no20 z25)
        have I25 := I25.swap
        rw [eW2] at I25
        have hr25 : (addD D20 r2).rows = r0 :: rbs' ++ [r2] := by show D20.rows ++ [r2] = _; rw [hr20]
        have ha2 : pfx "a" r2.rcd := er2 ▸ wp25
        have sm25 : Sm (addD D20 r2) := ⟨sm20.e, sm20.s, sm20.r, by rw [hr25]; simp only [List.length_append, List.length_cons, List.length_nil]; omega⟩
        rw [show [r0.rcd] ++ [z25] = [r0.rcd, r2.rcd] by rw [er2]; rfl] at I25
        generalize addD D20 r2 = D25 at I25 hr25 sm25
        walk_at "rd"
        refine ⟨L25, D25, n1, rbs'.map (·.rcd), by rw [I25.ed]; rfl, I25.dat, sm25, I25.la, fun H26 p26 s26 hp26 f26 => ?_⟩
        have I26 := I25.keep s26
        rw [hr25, fates_rec2 ha0 ha2 hb' hff rfl] at hp26
        have la26 := I26.la
        walk_at "rd"
        refine ⟨⟨_, SqL.of la26⟩, fun S hS => lc_same (f := "undone") la26 hS zl' (fun v H Q h => ⟨_, rfl, h⟩) fun H27 s27 hS27 => ?_⟩
        have I27 := I26.keep s27
        refine ⟨_, _, .lst (SqL.of (s27 _ _ hp26)) (dp_strs _), .lst (SqL.of hS27) (dp_strs _), sh23, sh23, ?_⟩
        rw [SeqAt.eqv_refl _ (SeqAt.canLay_of_shaped sh23)]
        walk_at "rd"
        refine ⟨L25, D25, n2, [r0.rcd, r2.rcd], by rw [I27.ed]; rfl, I27.dat, sm25, I27.lb, fun H28 p28 s28 hp28 f28 => ?_⟩
        have I28 := I27.keep s28
        rw [hr25] at hp28
        refine ⟨p28, _, rfl, .inl (SqL.of hp28), ?_⟩
        rw [List.length_map, fates_two ha0 ha2 hb']
        have zs : Same H H28 := sb.trans I28.same
        walk_at "rd"
        first
          | exact ⟨_, _, _, _, _, _, _, _, _, _, _, _, _, _, rfl⟩
          | exact ⟨zs, _, _, _, _, _, _, _, _, _, _, _, _, _, _, rfl⟩
          | exact ⟨by omega, zs, _, _, _, _, _, _, _, _, _, _, _, _, _, _, rfl⟩
      · have hx13 := I13.dat.db
        rw [I13.ed] at hx13
        walk_at "rd"
        refine ⟨L8, D8, .str w12, by rw [I13.ed]; rfl, word_thing hw12, I13.dat, fun H14 L14 hD14 f14 => ?_⟩
        have I14 := I13.db hD14 f14
        rw [doomV_word hw12] at I14 ⊢
        have eD : doomD D8 w12 = { D8 with stack := some ⟨D5.opened, [some w12]⟩ :: D5.stack } := by
          have e := b8.stk
          unfold doomD
          rw [e]
          rfl
        dsimp only at I14
        have smD : Sm (doomD D8 w12) := by
          rw [eD]
          have e := b8.stk
          refine ⟨sm8.e, ?_, fun x hx => ?_, sm8.n⟩
          · have := sm8.s
            rw [e] at this
            exact this
          · rcases List.mem_cons.mp hx with q | q
            · cases q
              simp
            · exact sm8.r x (by rw [e]; exact List.mem_cons_of_mem _ q)
        have flD : (doomD D8 w12).floor = 0 := by rw [eD]; exact fl8
        have wfD : Wf (doomD D8 w12).entered (doomD D8 w12).stack := by
          rw [eD]
          show Wf D8.entered _
          rw [b8.ent]
          exact .base b8.wf
        generalize doomD D8 w12 = DD at I14 eD smD flD wfD
        walk_at "rd"
        intro t3 ht3
        have I15 := I14.keep ((Same.refl _).new (o := .tup [.str "doomed", .str w12]) ht3)
        have ht3' := upd_same (H := H14) (a := t3) (o := .tup [.str "doomed", .str w12])
        generalize upd H14 t3 (.tup [.str "doomed", .str w12]) = H15 at I15 ht3' ⊢
        walk_at "rd"
        obtain ⟨rbs', eL, em, hf'⟩ := b8.last none (some w12) true (D2 := DD) eD
        have hb' : ∀ r ∈ rbs', pfx "b" r.rcd := fun r hr => (hf' r hr).2
        have hff : ∀ r ∈ rbs', r.fate = "undone" := fun r hr => (hf' r hr).1
        have hl' : rbs'.length ≤ 60 := by
          have := congrArg List.length em
          rw [List.length_map, List.length_map] at this
          rw [this]; exact b8.sr
        obtain ⟨due1, due2⟩ := pair_eq (z := "doomed") (y := (some w12)) (by decide +kernel) (fun u e => Option.some.inj e ▸ hw12)
        walk_at "rd"
        refine ⟨B0, p, x, n1, n2, L14, DD, _, _, _, none, true, rfl, (fun z e => nomatch e), I15, smD, flD, wfD, by rw [eL]; trivial, fun H20 L20 t20 I20 ht20 tp20 => ?_⟩
        rw [eL] at I20 ht20
        have htd20 := tp20 _ _ ht3'
        walk_at "rd"
        refine ⟨_, _, dp_pair (z := "doomed") (y := (some w12)) ht20, dp_pair (z := "doomed") (y := (some w12)) htd20, due1, due1, ?_⟩
        rw [due2]
        dsimp only at I20
        rw [← em] at I20
        have sm20 : Sm ({ D8 with stack := D5.stack, entered := D5.entered, rows := r0 :: rbs' } : Db) := by
          have h := (g5.rows (rs := r0 :: rbs')).sm (by omega) (by show (r0 :: rbs').length ≤ 4000; rw [List.length_cons]; omega)
          exact ⟨h.e, h.s, h.r, h.n⟩
        generalize eD20 : ({ D8 with stack := D5.stack, entered := D5.entered, rows := r0 :: rbs' } : Db) = D20 at I20 sm20
        have hr20 : D20.rows = r0 :: rbs' := by rw [← eD20]
        have st20 : D20.stack = D5.stack := by rw [← eD20]
        have fr20 : freeD D20 := fun y st e => g5.free y st (st20 ▸ e)
        have no20 : ∀ z, z ∉ outerL D20 := fun z hz => by
          have h := (g5.rows (rs := r0 :: rbs')).hno (r0 := r0) (rbs := rbs') rfl ow5 (fun r hr => by rw [hff r hr]; decide +kernel) z
          refine h ?_
          have e : outerL D20 = outerL ({ D5 with rows := r0 :: rbs' } : Db) := by unfold outerL; rw [hr20, st20]
          rwa [e] at hz
        walk_at "rd"
        intro n21 g21
        have I21 := I20.keep ((Same.refl _).new (o := .lst [.int 1, .int 2, .int 3]) g21)
        have hn21 := upd_same (H := H20) (a := n21) (o := .lst [.int 1, .int 2, .int 3])
        generalize upd H20 n21 (.lst [.int 1, .int 2, .int 3]) = H21 at I21 hn21 ⊢
        walk_at "rd"
        refine ⟨L20, D20, n1, rbs'.map (·.rcd), by rw [I21.ed]; rfl, I21.dat, sm20, I21.la, fun H22 p22 s22 hp22 f22 => ?_⟩
        have I22 := I21.keep s22
        rw [hr20, fates_rec ha0 hb' hff rfl] at hp22
        have la22 := I22.la
        have zl' : (rbs'.map (·.rcd)).length < sizeLine := by rw [List.length_map, sizeLine_eq]; omega
        walk_at "rd"
        refine ⟨⟨_, SqL.of la22⟩, fun S hS => lc_same (f := "undone") la22 hS zl' (fun v H Q h => ⟨_, rfl, h⟩) fun H23 s23 hS23 => ?_⟩
        have I23 := I22.keep s23
        have sh23 := sh_same (rs := rbs'.map (·.rcd)) (f := "undone") asc_open.2.2
        refine ⟨_, _, .lst (SqL.of (s23 _ _ hp22)) (dp_strs _), .lst (SqL.of hS23) (dp_strs _), sh23, sh23, ?_⟩
        rw [SeqAt.eqv_refl _ (SeqAt.canLay_of_shaped sh23)]
        walk_at "rd"
        refine ⟨L20, D20, n2, [r0.rcd], by rw [I23.ed]; rfl, I23.dat, sm20, I23.lb, fun H24 p24 s24 hp24 f24 => ?_⟩
        have I24 := I23.keep s24
        rw [hr20, fates_oth ha0 hb'] at hp24
        have hq24 := I24.same _ _ hb0
        have sh24 : SeqAt.shaped (.list (([r0.fate] : List Str).map PyData.str)) = true := shaped_strs fun y hy => List.mem_singleton.mp hy ▸ asc0
        walk_at "rd"
        refine ⟨_, _, .lst (SqL.of hp24) (dp_strs _), .lst (SqL.of hq24) (dp_strs _), sh24, sh24, ?_⟩
        rw [SeqAt.eqv_refl _ (SeqAt.canLay_of_shaped sh24)]
        walk_at "rd"
        refine ⟨B0, p, x, n2, n1, L20, D20, [r0.rcd], _, _, "a", rfl, wa, rfl, I24.swap, sm20, by rw [st20]; exact g5.wf.ne, fr20, fun z _ => no20 z, by simp, by omega, fun H25 L25 z25 i25 wz25 wp25 I25 => ?_⟩
        obtain ⟨r2, eW2, er2, _⟩ := wr_row (v := .int i25) (by rw [st20]; exact g5.wf.ne) fr20 (no20 z25)
        have I25 := I25.swap
        rw [eW2] at I25
        have hr25 : (addD D20 r2).rows = r0 :: rbs' ++ [r2] := by show D20.rows ++ [r2] = _; rw [hr20]
        have ha2 : pfx "a" r2.rcd := er2 ▸ wp25
        have sm25 : Sm (addD D20 r2) := ⟨sm20.e, sm20.s, sm20.r, by rw [hr25]; simp only [List.length_append, List.length_cons, List.length_nil]; omega⟩
        rw [show [r0.rcd] ++ [z25] = [r0.rcd, r2.rcd] by rw [er2]; rfl] at I25
        generalize addD D20 r2 = D25 at I25 hr25 sm25
        walk_at "rd"
        refine ⟨L25, D25, n1, rbs'.map (·.rcd), by rw [I25.ed]; rfl, I25.dat, sm25, I25.la, fun H26 p26 s26 hp26 f26 => ?_⟩
        have I26 := I25.keep s26
        rw [hr25, fates_rec2 ha0 ha2 hb' hff rfl] at hp26
        have la26 := I26.la
        walk_at "rd"
        refine ⟨⟨_, SqL.of la26⟩, fun S hS => lc_same (f := "undone") la26 hS zl' (fun v H Q h => ⟨_, rfl, h⟩) fun H27 s27 hS27 => ?_⟩
        have I27 := I26.keep s27
        refine ⟨_, _, .lst (SqL.of (s27 _ _ hp26)) (dp_strs _), .lst (SqL.of hS27) (dp_strs _), sh23, sh23, ?_⟩
        rw [SeqAt.eqv_refl _ (SeqAt.canLay_of_shaped sh23)]
        walk_at "rd"
        refine ⟨L25, D25, n2, [r0.rcd, r2.rcd], by rw [I27.ed]; rfl, I27.dat, sm25, I27.lb, fun H28 p28 s28 hp28 f28 => ?_⟩
        have I28 := I27.keep s28
        rw [hr25] at hp28
        refine ⟨p28, _, rfl, .inl (SqL.of hp28), ?_⟩
        rw [List.length_map, fates_two ha0 ha2 hb']
        have zs : Same H H28 := sb.trans I28.same
        walk_at "rd"
        first
          | exact ⟨_, _, _, _, _, _, _, _, _, _, _, _, _, _, rfl⟩
          | exact ⟨zs, _, _, _, _, _, _, _, _, _, _, _, _, _, _, rfl⟩
          | exact ⟨by omega, zs, _, _, _, _, _, _, _, _, _, _, _, _, _, _, rfl⟩
      · walk_at "rd"
        obtain ⟨rbs', eL, em, hf'⟩ := b8.last none none true (D2 := D8) (by have := b8.stk; cases D8; dsimp only at this; subst this; rfl)
        have hb' : ∀ r ∈ rbs', pfx "b" r.rcd := fun r hr => (hf' r hr).2
        have hff : ∀ r ∈ rbs', r.fate = "kept" := fun r hr => (hf' r hr).1
        have hl' : rbs'.length ≤ 60 := by
          have := congrArg List.length em
          rw [List.length_map, List.length_map] at this
          rw [this]; exact b8.sr
        obtain ⟨due1, due2⟩ := pair_eq (z := "") (y := none) (by decide +kernel) (fun u e => nomatch e)
        walk_at "rd"
        refine ⟨B0, p, x, n1, n2, L8, D8, _, _, _, none, true, rfl, (fun z e => nomatch e), I13, sm8, fl8, wf8, by rw [eL]; trivial, fun H20 L20 t20 I20 ht20 tp20 => ?_⟩
        rw [eL] at I20 ht20
        have htd20 := tp20 _ _ ht1'
        walk_at "rd"
        refine ⟨_, _, dp_pair (z := "") (y := none) ht20, dp_pair (z := "") (y := none) htd20, due1, due1, ?_⟩
        rw [due2]
        dsimp only at I20
        rw [← em] at I20
        have sm20 : Sm ({ D8 with stack := D5.stack, entered := D5.entered, rows := r0 :: rbs' } : Db) := by
          have h := (g5.rows (rs := r0 :: rbs')).sm (by omega) (by show (r0 :: rbs').length ≤ 4000; rw [List.length_cons]; omega)
          exact ⟨h.e, h.s, h.r, h.n⟩
        generalize eD20 : ({ D8 with stack := D5.stack, entered := D5.entered, rows := r0 :: rbs' } : Db) = D20 at I20 sm20
        have hr20 : D20.rows = r0 :: rbs' := by rw [← eD20]
        have st20 : D20.stack = D5.stack := by rw [← eD20]
        have fr20 : freeD D20 := fun y st e => g5.free y st (st20 ▸ e)
        have no20 : ∀ z, z ∉ outerL D20 := fun z hz => by
          have h := (g5.rows (rs := r0 :: rbs')).hno (r0 := r0) (rbs := rbs') rfl ow5 (fun r hr => by rw [hff r hr]; decide +kernel) z
          refine h ?_
          have e : outerL D20 = outerL ({ D5 with rows := r0 :: rbs' } : Db) := by unfold outerL; rw [hr20, st20]
          rwa [e] at hz
        walk_at "rd"
        intro n21 g21
        have I21 := I20.keep ((Same.refl _).new (o := .lst [.int 1, .int 2, .int 3]) g21)
        have hn21 := upd_same (H := H20) (a := n21) (o := .lst [.int 1, .int 2, .int 3])
        generalize upd H20 n21 (.lst [.int 1, .int 2, .int 3]) = H21 at I21 hn21 ⊢
        walk_at "rd"
        refine ⟨L20, D20, n1, rbs'.map (·.rcd), by rw [I21.ed]; rfl, I21.dat, sm20, I21.la, fun H22 p22 s22 hp22 f22 => ?_⟩
        have I22 := I21.keep s22
        rw [hr20, fates_rec ha0 hb' hff rfl] at hp22
        have la22 := I22.la
        have zl' : (rbs'.map (·.rcd)).length < sizeLine := by rw [List.length_map, sizeLine_eq]; omega
        walk_at "rd"
        refine ⟨⟨_, SqL.of la22⟩, fun S hS => lc_same (f := "kept") la22 hS zl' (fun v H Q h => ⟨_, rfl, h⟩) fun H23 s23 hS23 => ?_⟩
        have I23 := I22.keep s23
        have sh23 := sh_same (rs := rbs'.map (·.rcd)) (f := "kept") asc_open.2.1
        refine ⟨_, _, .lst (SqL.of (s23 _ _ hp22)) (dp_strs _), .lst (SqL.of hS23) (dp_strs _), sh23, sh23, ?_⟩
        rw [SeqAt.eqv_refl _ (SeqAt.canLay_of_shaped sh23)]
        walk_at "rd"
        refine ⟨L20, D20, n2, [r0.rcd], by rw [I23.ed]; rfl, I23.dat, sm20, I23.lb, fun H24 p24 s24 hp24 f24 => ?_⟩
        have I24 := I23.keep s24
        rw [hr20, fates_oth ha0 hb'] at hp24
        have hq24 := I24.same _ _ hb0
        have sh24 : SeqAt.shaped (.list (([r0.fate] : List Str).map PyData.str)) = true := shaped_strs fun y hy => List.mem_singleton.mp hy ▸ asc0
        walk_at "rd"
        refine ⟨_, _, .lst (SqL.of hp24) (dp_strs _), .lst (SqL.of hq24) (dp_strs _), sh24, sh24, ?_⟩
        rw [SeqAt.eqv_refl _ (SeqAt.canLay_of_shaped sh24)]
        walk_at "rd"
        refine ⟨B0, p, x, n2, n1, L20, D20, [r0.rcd], _, _, "a", rfl, wa, rfl, I24.swap, sm20, by rw [st20]; exact g5.wf.ne, fr20, fun z _ => no20 z, by simp, by omega, fun H25 L25 z25 i25 wz25 wp25 I25 => ?_⟩
        obtain ⟨r2, eW2, er2, _⟩ := wr_row (v := .int i25) (by rw [st20]; exact g5.wf.ne) fr20 (no20 z25)
        have I25 := I25.swap
        rw [eW2] at I25
        have hr25 : (addD D20 r2).rows = r0 :: rbs' ++ [r2] := by show D20.rows ++ [r2] = _; rw [hr20]
        have ha2 : pfx "a" r2.rcd := er2 ▸ wp25
        have sm25 : Sm (addD D20 r2) := ⟨sm20.e, sm20.s, sm20.r, by rw [hr25]; simp only [List.length_append, List.length_cons, List.length_nil]; omega⟩
        rw [show [r0.rcd] ++ [z25] = [r0.rcd, r2.rcd] by rw [er2]; rfl] at I25
        generalize addD D20 r2 = D25 at I25 hr25 sm25
        walk_at "rd"
        refine ⟨L25, D25, n1, rbs'.map (·.rcd), by rw [I25.ed]; rfl, I25.dat, sm25, I25.la, fun H26 p26 s26 hp26 f26 => ?_⟩
        have I26 := I25.keep s26
        rw [hr25, fates_rec2 ha0 ha2 hb' hff rfl] at hp26
        have la26 := I26.la
        walk_at "rd"
        refine ⟨⟨_, SqL.of la26⟩, fun S hS => lc_same (f := "kept") la26 hS zl' (fun v H Q h => ⟨_, rfl, h⟩) fun H27 s27 hS27 => ?_⟩
        have I27 := I26.keep s27
        refine ⟨_, _, .lst (SqL.of (s27 _ _ hp26)) (dp_strs _), .lst (SqL.of hS27) (dp_strs _), sh23, sh23, ?_⟩
        rw [SeqAt.eqv_refl _ (SeqAt.canLay_of_shaped sh23)]
        walk_at "rd"
        refine ⟨L25, D25, n2, [r0.rcd, r2.rcd], by rw [I27.ed]; rfl, I27.dat, sm25, I27.lb, fun H28 p28 s28 hp28 f28 => ?_⟩
        have I28 := I27.keep s28
        rw [hr25] at hp28
        refine ⟨p28, _, rfl, .inl (SqL.of hp28), ?_⟩
        rw [List.length_map, fates_two ha0 ha2 hb']
        have zs : Same H H28 := sb.trans I28.same
        walk_at "rd"
        first
          | exact ⟨_, _, _, _, _, _, _, _, _, _, _, _, _, _, rfl⟩
          | exact ⟨zs, _, _, _, _, _, _, _, _, _, _, _, _, _, _, rfl⟩
          | exact ⟨by omega, zs, _, _, _, _, _, _, _, _, _, _, _, _, _, _, rfl⟩
    · rintro σ H1 ⟨_, s1, v1, v2, v3, v4, v5, v6, v7, v8, v9, v10, v11, v12, v13, v14, rfl⟩
      exact k H1
end
theorem all_mk {w : World} {K : PySem.W.Frag} {h : Heap} {mg : Str → Option Value} {fa : Addr} (X : K.In h) (G : h.Ns mainGlobals mg) (hfa : mg "law" = some (.ref fa))
    {C1 : Addr}
    {t6 : Tok}
    {t8 : Tok}
    {t10 : Tok}
    {t12 : Tok}
    {t14 : Tok}
    {t16 : Tok}
    {t18 : Tok}
    {t20 : Tok}
    {t24 t25 t26 t27 t28 t29 t30 t31 : Tok} {p22 : Addr} {dd32 : Option Addr} {nn33 : Nat} {sl34 : Array (Option Value)}
    {f35 p36 : Addr} {rs39 : List Value}
    {od40 an40 : Option Addr} {sl40 : Array (Option Value)} {oc40 kV40 dc40 pm40 cd40 ct40 : Value}
    {f41 : Addr}
    {od43 an43 : Option Addr} {sl43 : Array (Option Value)} {oc43 kV43 dc43 pm43 cd43 ct43 : Value}
    {C45 : Addr}
    {f47 : Addr} {nm48 qn48 : Str} {N48 : Addr} {bs48 bm48 : List Value} {sn48 : List Str} {sub48 : List Value} {ab48 : Bool} {col48 : Option Bool} {dd48 : Option Addr} {k048 k148 k248 k348 k548 : Option Value}
    {oc48 : Value} {od48 : Option Addr} {doc48 pm48 : Value} {an48 : Option Addr} {cda48 cc48 : Addr} {ct48 : Value} {osl48 : Array (Option Value)} {ccl48 : Value} {cdd48 : Option Addr} {vs48 : Array Value} {ccs48 : Array (Option Value)} {tf48 : Tok} {cl48 : Value} {cld48 : Option Addr} {csl48 : Array (Option Value)}
    {C71 : Addr}
    {f73 : Addr} {nm74 qn74 : Str} {N74 : Addr} {bs74 bm74 : List Value} {sn74 : List Str} {sub74 : List Value} {ab74 : Bool} {col74 : Option Bool} {dd74 : Option Addr} {k074 k174 k274 k374 k574 : Option Value}
    {oc74 : Value} {od74 : Option Addr} {doc74 pm74 : Value} {an74 : Option Addr} {cda74 cc74 : Addr} {ct74 : Value} {osl74 : Array (Option Value)} {ccl74 : Value} {cdd74 : Option Addr} {vs74 : Array Value} {ccs74 : Array (Option Value)} {tf74 : Tok} {cl74 : Value} {cld74 : Option Addr} {csl74 : Array (Option Value)}
    {C97 : Addr}
    {f99 : Addr} {nm100 qn100 : Str} {N100 : Addr} {bs100 bm100 : List Value} {sn100 : List Str} {sub100 : List Value} {ab100 : Bool} {col100 : Option Bool} {dd100 : Option Addr} {k0100 k1100 k2100 k3100 k5100 : Option Value}
    {oc100 : Value} {od100 : Option Addr} {doc100 pm100 : Value} {an100 : Option Addr} {cda100 cc100 : Addr} {ct100 : Value} {osl100 : Array (Option Value)} {ccl100 : Value} {cdd100 : Option Addr} {vs100 : Array Value} {ccs100 : Array (Option Value)} {tf100 : Tok} {cl100 : Value} {cld100 : Option Addr} {csl100 : Array (Option Value)}
    {C123 : Addr}
    {f125 : Addr} {nm126 qn126 : Str} {N126 : Addr} {bs126 bm126 : List Value} {sn126 : List Str} {sub126 : List Value} {ab126 : Bool} {col126 : Option Bool} {dd126 : Option Addr} {k0126 k1126 k2126 k3126 k5126 : Option Value}
    {oc126 : Value} {od126 : Option Addr} {doc126 pm126 : Value} {an126 : Option Addr} {cda126 cc126 : Addr} {ct126 : Value} {osl126 : Array (Option Value)} {ccl126 : Value} {cdd126 : Option Addr} {vs126 : Array Value} {ccs126 : Array (Option Value)} {tf126 : Tok} {cl126 : Value} {cld126 : Option Addr} {csl126 : Array (Option Value)}
    {C148 : Addr}
    {f150 : Addr} {nm151 qn151 : Str} {N151 : Addr} {bs151 bm151 : List Value} {sn151 : List Str} {sub151 : List Value} {ab151 : Bool} {col151 : Option Bool} {dd151 : Option Addr} {k0151 k1151 k2151 k3151 k5151 : Option Value}
    {oc151 : Value} {od151 : Option Addr} {doc151 pm151 : Value} {an151 : Option Addr} {cda151 cc151 : Addr} {ct151 : Value} {osl151 : Array (Option Value)} {ccl151 : Value} {cdd151 : Option Addr} {vs151 : Array Value} {ccs151 : Array (Option Value)} {tf151 : Tok} {cl151 : Value} {cld151 : Option Addr} {csl151 : Array (Option Value)}
    {C172 : Addr}
    {f174 : Addr} {nm175 qn175 : Str} {N175 : Addr} {bs175 bm175 : List Value} {sn175 : List Str} {sub175 : List Value} {ab175 : Bool} {col175 : Option Bool} {dd175 : Option Addr} {k0175 k1175 k2175 k3175 k5175 : Option Value}
    {oc175 : Value} {od175 : Option Addr} {doc175 pm175 : Value} {an175 : Option Addr} {cda175 cc175 : Addr} {ct175 : Value} {osl175 : Array (Option Value)} {ccl175 : Value} {cdd175 : Option Addr} {vs175 : Array Value} {ccs175 : Array (Option Value)} {tf175 : Tok} {cl175 : Value} {cld175 : Option Addr} {csl175 : Array (Option Value)}
    {C198 : Addr}
    {f200 : Addr} {nm201 qn201 : Str} {N201 : Addr} {bs201 bm201 : List Value} {sn201 : List Str} {sub201 : List Value} {ab201 : Bool} {col201 : Option Bool} {dd201 : Option Addr} {k0201 k1201 k2201 k3201 k5201 : Option Value}
    {oc201 : Value} {od201 : Option Addr} {doc201 pm201 : Value} {an201 : Option Addr} {cda201 cc201 : Addr} {ct201 : Value} {osl201 : Array (Option Value)} {ccl201 : Value} {cdd201 : Option Addr} {vs201 : Array Value} {ccs201 : Array (Option Value)} {tf201 : Tok} {cl201 : Value} {cld201 : Option Addr} {csl201 : Array (Option Value)}
    {C223 : Addr}
    {f225 : Addr} {nm226 qn226 : Str} {N226 : Addr} {bs226 bm226 : List Value} {sn226 : List Str} {sub226 : List Value} {ab226 : Bool} {col226 : Option Bool} {dd226 : Option Addr} {k0226 k1226 k2226 k3226 k5226 : Option Value}
    {oc226 : Value} {od226 : Option Addr} {doc226 pm226 : Value} {an226 : Option Addr} {cda226 cc226 : Addr} {ct226 : Value} {osl226 : Array (Option Value)} {ccl226 : Value} {cdd226 : Option Addr} {vs226 : Array Value} {ccs226 : Array (Option Value)} {tf226 : Tok} {cl226 : Value} {cld226 : Option Addr} {csl226 : Array (Option Value)}
    {C248 : Addr}
    {f250 : Addr} {nm251 qn251 : Str} {N251 : Addr} {bs251 bm251 : List Value} {sn251 : List Str} {sub251 : List Value} {ab251 : Bool} {col251 : Option Bool} {dd251 : Option Addr} {k0251 k1251 k2251 k3251 k5251 : Option Value}
    {oc251 : Value} {od251 : Option Addr} {doc251 pm251 : Value} {an251 : Option Addr} {cda251 cc251 : Addr} {ct251 : Value} {osl251 : Array (Option Value)} {ccl251 : Value} {cdd251 : Option Addr} {vs251 : Array Value} {ccs251 : Array (Option Value)} {tf251 : Tok} {cl251 : Value} {cld251 : Option Addr} {csl251 : Array (Option Value)}
    {C274 : Addr}
    {f285 : Addr}
    {od290 an290 : Option Addr} {sl290 : Array (Option Value)} {oc290 kV290 dc290 pm290 cd290 ct290 : Value}
    {C291 : Addr}
    {f299 : Addr}
    {od304 an304 : Option Addr} {sl304 : Array (Option Value)} {oc304 kV304 dc304 pm304 cd304 ct304 : Value}
    {C305 : Addr}
    {f316 : Addr}
    {od321 an321 : Option Addr} {sl321 : Array (Option Value)} {oc321 kV321 dc321 pm321 cd321 ct321 : Value}
    {f322 : Addr}
    {od325 an325 : Option Addr} {sl325 : Array (Option Value)} {oc325 kV325 dc325 pm325 cd325 ct325 : Value}
    {f326 : Addr}
    {od329 an329 : Option Addr} {sl329 : Array (Option Value)} {oc329 kV329 dc329 pm329 cd329 ct329 : Value}
    {f330 : Addr}
    {od333 an333 : Option Addr} {sl333 : Array (Option Value)} {oc333 kV333 dc333 pm333 cd333 ct333 : Value}
    {f334 : Addr}
    {od337 an337 : Option Addr} {sl337 : Array (Option Value)} {oc337 kV337 dc337 pm337 cd337 ct337 : Value}
    {f338 : Addr}
    {od341 an341 : Option Addr} {sl341 : Array (Option Value)} {oc341 dc341 pm341 cd341 ct341 : Value}
    {T342 : Addr} {oc343 : Value} {od344 : Option Addr} {on345 : Nat} {os346 : Array (Option Value)}
    {t347 : Tok}
    {kV341 : Value}
    {f349 : Addr}
    {od352 an352 : Option Addr} {sl352 : Array (Option Value)} {oc352 kV352 dc352 pm352 cd352 ct352 : Value}
    {f353 : Addr}
    {od356 an356 : Option Addr} {sl356 : Array (Option Value)} {oc356 kV356 dc356 pm356 cd356 ct356 : Value}
    {f357 : Addr}
    {od360 an360 : Option Addr} {sl360 : Array (Option Value)} {oc360 dc360 pm360 cd360 ct360 : Value}
    {T361 : Addr} {oc362 : Value} {od363 : Option Addr} {on364 : Nat} {os365 : Array (Option Value)}
    {D368 : Addr}
    {f371 : Addr}
    {od374 an374 : Option Addr} {sl374 : Array (Option Value)} {oc374 kV374 dc374 pm374 cd374 ct374 : Value}
    {f375 : Addr}
    {od378 an378 : Option Addr} {sl378 : Array (Option Value)} {oc378 kV378 dc378 pm378 cd378 ct378 : Value}
    {f379 : Addr}
    {od382 an382 : Option Addr} {sl382 : Array (Option Value)} {oc382 kV382 dc382 pm382 cd382 ct382 : Value}
    {f383 : Addr}
    {od386 an386 : Option Addr} {sl386 : Array (Option Value)} {oc386 kV386 dc386 pm386 cd386 ct386 : Value}
    {f387 : Addr}
    {od390 an390 : Option Addr} {sl390 : Array (Option Value)} {oc390 kV390 dc390 pm390 cd390 ct390 : Value}
    {f391 : Addr}
    {od394 an394 : Option Addr} {sl394 : Array (Option Value)} {oc394 kV394 dc394 pm394 cd394 ct394 : Value}
    {f395 p396 : Addr} {rs397 : List Value}
    {od402 an402 : Option Addr} {sl402 : Array (Option Value)} {oc402 kV402 dc402 pm402 cd402 ct402 : Value}
    {f403 p404 : Addr} {rs405 : List Value}
    {od410 an410 : Option Addr} {sl410 : Array (Option Value)} {oc410 kV410 dc410 pm410 cd410 ct410 : Value}
    {f412 : Addr}
    {od414 an414 : Option Addr} {sl414 : Array (Option Value)} {oc414 kV414 dc414 pm414 cd414 ct414 : Value}
    {f415 : Addr}
    {od417 an417 : Option Addr} {sl417 : Array (Option Value)} {oc417 kV417 dc417 pm417 cd417 ct417 : Value}
    {f418 : Addr}
    {od420 an420 : Option Addr} {sl420 : Array (Option Value)} {oc420 kV420 dc420 pm420 cd420 ct420 : Value}
    {f421 : Addr}
    {od423 an423 : Option Addr} {sl423 : Array (Option Value)} {oc423 kV423 dc423 pm423 cd423 ct423 : Value}
    {f424 : Addr}
    {od426 an426 : Option Addr} {sl426 : Array (Option Value)} {oc426 kV426 dc426 pm426 cd426 ct426 : Value}
    {f427 : Addr}
    {od429 an429 : Option Addr} {sl429 : Array (Option Value)} {oc429 kV429 dc429 pm429 cd429 ct429 : Value}
    {f430 : Addr}
    {od432 an432 : Option Addr} {sl432 : Array (Option Value)} {oc432 kV432 dc432 pm432 cd432 ct432 : Value}
    {f433 : Addr}
    {od435 an435 : Option Addr} {sl435 : Array (Option Value)} {oc435 kV435 dc435 pm435 cd435 ct435 : Value}
    {od436 an436 : Option Addr} {sl436 : Array (Option Value)} {oc436 kV436 dc436 pm436 cd436 ct436 : Value}
    (a2 : PySem.W.nsIn K mainGlobals "Mode" = some (some (.ref C1)))
    (r3 : PySem.W.readsIn K C1 (.type "type") = true)
    (s4 : PySem.W.specialIn K (.ref C1) "__getattribute__" = some (some (.builtin "type.__getattribute__")))
    (z5 : PySem.W.findCls K (.ref C1) (.type "type") "JOIN" = some (.val (.str "join" t6)))
    (z7 : PySem.W.findCls K (.ref C1) (.type "type") "INNER" = some (.val (.str "inner" t8)))
    (z9 : PySem.W.findCls K (.ref C1) (.type "type") "APART" = some (.val (.str "apart" t10)))
    (z11 : PySem.W.findCls K (.ref C1) (.type "type") "MUST" = some (.val (.str "must" t12)))
    (z13 : PySem.W.findCls K (.ref C1) (.type "type") "EITHER" = some (.val (.str "either" t14)))
    (z15 : PySem.W.findCls K (.ref C1) (.type "type") "NEVER" = some (.val (.str "never" t16)))
    (z17 : PySem.W.findCls K (.ref C1) (.type "type") "OUTSIDE" = some (.val (.str "outside" t18)))
    (z19 : PySem.W.findCls K (.ref C1) (.type "type") "ALONE" = some (.val (.str "alone" t20)))
    (z21 : PySem.W.findCls K (.ref C1) (.type "type") "ALL" = some (.val (.ref p22)))
    (l23 : K.lookup p22 = some ⟨.type "tuple", dd32, .seq #[.str "join" t24, .str "inner" t25, .str "apart" t26, .str "must" t27, .str "either" t28, .str "never" t29, .str "outside" t30, .str "alone" t31] nn33, sl34⟩)
    (z37 : PySem.W.findCls K (.ref C1) (.type "type") "is_mode" = some (.get (.builtin "staticmethod.__get__") (.ref p36) .none (.ref C1)))
    (r38 : PySem.W.recIn K p36 "staticmethod" = some (.ref f35 :: rs39))
    (l40 : K.lookup f35 = some ⟨oc40, od40, .func (PySem.W.fnOf "is_mode" "Mode.is_mode" (defArgs s_Mode_is_mode) (defBody s_Mode_is_mode) (defScope s_Mode_is_mode) .none kV40 dc40 pm40 an40 cd40 ct40), sl40⟩)
    (c40 : PySem.W.codeIn K cd40 "Mode.is_mode" = true)
    (k40 : PySem.W.keepIn K (.ref f35) = true)
    (a42 : PySem.W.nsIn K mainGlobals "is_word" = some (some (.ref f41)))
    (l43 : K.lookup f41 = some ⟨oc43, od43, .func (PySem.W.fnOf "is_word" "is_word" (defArgs s_is_word) (defBody s_is_word) (defScope s_is_word) .none kV43 dc43 pm43 an43 cd43 ct43), sl43⟩)
    (c43 : PySem.W.codeIn K cd43 "is_word" = true)
    (k43 : PySem.W.keepIn K (.ref f41) = true)
    (z44 : PySem.W.nsIn K cStatics "thirdparty.any" = some none)
    (a46 : PySem.W.nsIn K mainGlobals "Missing" = some (some (.ref C45)))
    (e49 : K.lookup C45 = some (excClassObj nm48 qn48 C45 N48 bs48 bm48 true sn48 sub48 ab48 col48 dd48 k048 k148 k248 k348 k548 "ValueError.__new__"))
    (e50 : PySem.HandSPX.refsVE bm48 = true)
    (e51 : PySem.W.findIn K (.ref C45) "__setattr__" = some (some (.builtin "object.__setattr__")))
    (e52 : PySem.W.findIn K (.ref C45) "__getattribute__" = some (some (.builtin "BaseException.__getattribute__")))
    (e53 : PySem.W.findIn K (.ref C45) "__getattr__" = some none)
    (e54 : PySem.W.findIn K (.ref C45) "__init__" = some (some (.ref f47)))
    (e55 : PySem.W.typeIn K (.ref f47) = some (.type "function"))
    (e56 : PySem.W.keepIn K (.ref C45) = true)
    (e57 : PySem.W.subIn K (.ref C45) (.type "BaseException") = some true)
    (e58 : PySem.W.subIn K (.ref C45) (.type "ValueError") = some true)
    (e59 : PySem.W.typeIn K (.ref C45) = some (.type "type"))
    (e60 : PySem.W.hasDictIn K C45 = true)
    (e61 : PySem.W.ks_superIn K C45 C45 "__init__" = some (some (.builtin "ValueError.__init__")))
    (e62 : PySem.W.mroIn K C45 (.ref C45) = some true)
    (e63 : PySem.W.exmOne K (.ref C45) (.ref C45) = some true)
    (e64 : K.lookup f47 = some ⟨oc48, od48, .func (PySem.W.ksFn "__init__" "Missing.__init__" (defArgs s_MissingU_initU) (defBody s_MissingU_initU) (defScope s_MissingU_initU) .none .none doc48 pm48 an48 (.ref cda48) ct48 cc48), osl48⟩)
    (e65 : PySem.W.codeIn K (.ref cda48) "Missing.__init__" = true)
    (e66 : K.lookup cda48 = some ⟨ccl48, cdd48, .fields vs48, ccs48⟩)
    (e67 : vs48[2]? = some (.str P.main.file tf48))
    (e68 : K.lookup cc48 = some ⟨cl48, cld48, .cell (some (.ref C45)), csl48⟩)
    (e69 : PySem.W.findIn K (.ref C45) "word" = some none)
    (e70 : PySem.W.findIn K (.ref C45) "mode" = some none)
    (a72 : PySem.W.nsIn K mainGlobals "Present" = some (some (.ref C71)))
    (e75 : K.lookup C71 = some (excClassObj nm74 qn74 C71 N74 bs74 bm74 true sn74 sub74 ab74 col74 dd74 k074 k174 k274 k374 k574 "ValueError.__new__"))
    (e76 : PySem.HandSPX.refsVE bm74 = true)
    (e77 : PySem.W.findIn K (.ref C71) "__setattr__" = some (some (.builtin "object.__setattr__")))
    (e78 : PySem.W.findIn K (.ref C71) "__getattribute__" = some (some (.builtin "BaseException.__getattribute__")))
    (e79 : PySem.W.findIn K (.ref C71) "__getattr__" = some none)
    (e80 : PySem.W.findIn K (.ref C71) "__init__" = some (some (.ref f73)))
    (e81 : PySem.W.typeIn K (.ref f73) = some (.type "function"))
    (e82 : PySem.W.keepIn K (.ref C71) = true)
    (e83 : PySem.W.subIn K (.ref C71) (.type "BaseException") = some true)
    (e84 : PySem.W.subIn K (.ref C71) (.type "ValueError") = some true)
    (e85 : PySem.W.typeIn K (.ref C71) = some (.type "type"))
    (e86 : PySem.W.hasDictIn K C71 = true)
    (e87 : PySem.W.ks_superIn K C71 C71 "__init__" = some (some (.builtin "ValueError.__init__")))
    (e88 : PySem.W.mroIn K C71 (.ref C71) = some true)
    (e89 : PySem.W.exmOne K (.ref C71) (.ref C71) = some true)
    (e90 : K.lookup f73 = some ⟨oc74, od74, .func (PySem.W.ksFn "__init__" "Present.__init__" (defArgs s_PresentU_initU) (defBody s_PresentU_initU) (defScope s_PresentU_initU) .none .none doc74 pm74 an74 (.ref cda74) ct74 cc74), osl74⟩)
    (e91 : PySem.W.codeIn K (.ref cda74) "Present.__init__" = true)
    (e92 : K.lookup cda74 = some ⟨ccl74, cdd74, .fields vs74, ccs74⟩)
    (e93 : vs74[2]? = some (.str P.main.file tf74))
    (e94 : K.lookup cc74 = some ⟨cl74, cld74, .cell (some (.ref C71)), csl74⟩)
    (e95 : PySem.W.findIn K (.ref C71) "word" = some none)
    (e96 : PySem.W.findIn K (.ref C71) "mode" = some none)
    (a98 : PySem.W.nsIn K mainGlobals "Doomed" = some (some (.ref C97)))
    (e101 : K.lookup C97 = some (excClassObj nm100 qn100 C97 N100 bs100 bm100 true sn100 sub100 ab100 col100 dd100 k0100 k1100 k2100 k3100 k5100 "ValueError.__new__"))
    (e102 : PySem.HandSPX.refsVE bm100 = true)
    (e103 : PySem.W.findIn K (.ref C97) "__setattr__" = some (some (.builtin "object.__setattr__")))
    (e104 : PySem.W.findIn K (.ref C97) "__getattribute__" = some (some (.builtin "BaseException.__getattribute__")))
    (e105 : PySem.W.findIn K (.ref C97) "__getattr__" = some none)
    (e106 : PySem.W.findIn K (.ref C97) "__init__" = some (some (.ref f99)))
    (e107 : PySem.W.typeIn K (.ref f99) = some (.type "function"))
    (e108 : PySem.W.keepIn K (.ref C97) = true)
    (e109 : PySem.W.subIn K (.ref C97) (.type "BaseException") = some true)
    (e110 : PySem.W.subIn K (.ref C97) (.type "ValueError") = some true)
    (e111 : PySem.W.typeIn K (.ref C97) = some (.type "type"))
    (e112 : PySem.W.hasDictIn K C97 = true)
    (e113 : PySem.W.ks_superIn K C97 C97 "__init__" = some (some (.builtin "ValueError.__init__")))
    (e114 : PySem.W.mroIn K C97 (.ref C97) = some true)
    (e115 : PySem.W.exmOne K (.ref C97) (.ref C97) = some true)
    (e116 : K.lookup f99 = some ⟨oc100, od100, .func (PySem.W.ksFn "__init__" "Doomed.__init__" (defArgs s_DoomedU_initU) (defBody s_DoomedU_initU) (defScope s_DoomedU_initU) .none .none doc100 pm100 an100 (.ref cda100) ct100 cc100), osl100⟩)
    (e117 : PySem.W.codeIn K (.ref cda100) "Doomed.__init__" = true)
    (e118 : K.lookup cda100 = some ⟨ccl100, cdd100, .fields vs100, ccs100⟩)
    (e119 : vs100[2]? = some (.str P.main.file tf100))
    (e120 : K.lookup cc100 = some ⟨cl100, cld100, .cell (some (.ref C97)), csl100⟩)
    (e121 : PySem.W.findIn K (.ref C97) "word" = some none)
    (e122 : PySem.W.findIn K (.ref C97) "first" = some none)
    (a124 : PySem.W.nsIn K mainGlobals "Refused" = some (some (.ref C123)))
    (e127 : K.lookup C123 = some (excClassObj nm126 qn126 C123 N126 bs126 bm126 true sn126 sub126 ab126 col126 dd126 k0126 k1126 k2126 k3126 k5126 "ValueError.__new__"))
    (e128 : PySem.HandSPX.refsVE bm126 = true)
    (e129 : PySem.W.findIn K (.ref C123) "__setattr__" = some (some (.builtin "object.__setattr__")))
    (e130 : PySem.W.findIn K (.ref C123) "__getattribute__" = some (some (.builtin "BaseException.__getattribute__")))
    (e131 : PySem.W.findIn K (.ref C123) "__getattr__" = some none)
    (e132 : PySem.W.findIn K (.ref C123) "__init__" = some (some (.ref f125)))
    (e133 : PySem.W.typeIn K (.ref f125) = some (.type "function"))
    (e134 : PySem.W.keepIn K (.ref C123) = true)
    (e135 : PySem.W.subIn K (.ref C123) (.type "BaseException") = some true)
    (e136 : PySem.W.subIn K (.ref C123) (.type "ValueError") = some true)
    (e137 : PySem.W.typeIn K (.ref C123) = some (.type "type"))
    (e138 : PySem.W.hasDictIn K C123 = true)
    (e139 : PySem.W.ks_superIn K C123 C123 "__init__" = some (some (.builtin "ValueError.__init__")))
    (e140 : PySem.W.mroIn K C123 (.ref C123) = some true)
    (e141 : PySem.W.exmOne K (.ref C123) (.ref C123) = some true)
    (e142 : K.lookup f125 = some ⟨oc126, od126, .func (PySem.W.ksFn "__init__" "Refused.__init__" (defArgs s_RefusedU_initU) (defBody s_RefusedU_initU) (defScope s_RefusedU_initU) .none .none doc126 pm126 an126 (.ref cda126) ct126 cc126), osl126⟩)
    (e143 : PySem.W.codeIn K (.ref cda126) "Refused.__init__" = true)
    (e144 : K.lookup cda126 = some ⟨ccl126, cdd126, .fields vs126, ccs126⟩)
    (e145 : vs126[2]? = some (.str P.main.file tf126))
    (e146 : K.lookup cc126 = some ⟨cl126, cld126, .cell (some (.ref C123)), csl126⟩)
    (e147 : PySem.W.findIn K (.ref C123) "word" = some none)
    (a149 : PySem.W.nsIn K mainGlobals "NoBlock" = some (some (.ref C148)))
    (e152 : K.lookup C148 = some (excClassObj nm151 qn151 C148 N151 bs151 bm151 true sn151 sub151 ab151 col151 dd151 k0151 k1151 k2151 k3151 k5151 "ValueError.__new__"))
    (e153 : PySem.HandSPX.refsVE bm151 = true)
    (e154 : PySem.W.findIn K (.ref C148) "__setattr__" = some (some (.builtin "object.__setattr__")))
    (e155 : PySem.W.findIn K (.ref C148) "__getattribute__" = some (some (.builtin "BaseException.__getattribute__")))
    (e156 : PySem.W.findIn K (.ref C148) "__getattr__" = some none)
    (e157 : PySem.W.findIn K (.ref C148) "__init__" = some (some (.ref f150)))
    (e158 : PySem.W.typeIn K (.ref f150) = some (.type "function"))
    (e159 : PySem.W.keepIn K (.ref C148) = true)
    (e160 : PySem.W.subIn K (.ref C148) (.type "BaseException") = some true)
    (e161 : PySem.W.subIn K (.ref C148) (.type "ValueError") = some true)
    (e162 : PySem.W.typeIn K (.ref C148) = some (.type "type"))
    (e163 : PySem.W.hasDictIn K C148 = true)
    (e164 : PySem.W.ks_superIn K C148 C148 "__init__" = some (some (.builtin "ValueError.__init__")))
    (e165 : PySem.W.mroIn K C148 (.ref C148) = some true)
    (e166 : PySem.W.exmOne K (.ref C148) (.ref C148) = some true)
    (e167 : K.lookup f150 = some ⟨oc151, od151, .func (PySem.W.ksFn "__init__" "NoBlock.__init__" (defArgs s_NoBlockU_initU) (defBody s_NoBlockU_initU) (defScope s_NoBlockU_initU) .none .none doc151 pm151 an151 (.ref cda151) ct151 cc151), osl151⟩)
    (e168 : PySem.W.codeIn K (.ref cda151) "NoBlock.__init__" = true)
    (e169 : K.lookup cda151 = some ⟨ccl151, cdd151, .fields vs151, ccs151⟩)
    (e170 : vs151[2]? = some (.str P.main.file tf151))
    (e171 : K.lookup cc151 = some ⟨cl151, cld151, .cell (some (.ref C148)), csl151⟩)
    (a173 : PySem.W.nsIn K mainGlobals "Waits" = some (some (.ref C172)))
    (e176 : K.lookup C172 = some (excClassObj nm175 qn175 C172 N175 bs175 bm175 true sn175 sub175 ab175 col175 dd175 k0175 k1175 k2175 k3175 k5175 "ValueError.__new__"))
    (e177 : PySem.HandSPX.refsVE bm175 = true)
    (e178 : PySem.W.findIn K (.ref C172) "__setattr__" = some (some (.builtin "object.__setattr__")))
    (e179 : PySem.W.findIn K (.ref C172) "__getattribute__" = some (some (.builtin "BaseException.__getattribute__")))
    (e180 : PySem.W.findIn K (.ref C172) "__getattr__" = some none)
    (e181 : PySem.W.findIn K (.ref C172) "__init__" = some (some (.ref f174)))
    (e182 : PySem.W.typeIn K (.ref f174) = some (.type "function"))
    (e183 : PySem.W.keepIn K (.ref C172) = true)
    (e184 : PySem.W.subIn K (.ref C172) (.type "BaseException") = some true)
    (e185 : PySem.W.subIn K (.ref C172) (.type "ValueError") = some true)
    (e186 : PySem.W.typeIn K (.ref C172) = some (.type "type"))
    (e187 : PySem.W.hasDictIn K C172 = true)
    (e188 : PySem.W.ks_superIn K C172 C172 "__init__" = some (some (.builtin "ValueError.__init__")))
    (e189 : PySem.W.mroIn K C172 (.ref C172) = some true)
    (e190 : PySem.W.exmOne K (.ref C172) (.ref C172) = some true)
    (e191 : K.lookup f174 = some ⟨oc175, od175, .func (PySem.W.ksFn "__init__" "Waits.__init__" (defArgs s_WaitsU_initU) (defBody s_WaitsU_initU) (defScope s_WaitsU_initU) .none .none doc175 pm175 an175 (.ref cda175) ct175 cc175), osl175⟩)
    (e192 : PySem.W.codeIn K (.ref cda175) "Waits.__init__" = true)
    (e193 : K.lookup cda175 = some ⟨ccl175, cdd175, .fields vs175, ccs175⟩)
    (e194 : vs175[2]? = some (.str P.main.file tf175))
    (e195 : K.lookup cc175 = some ⟨cl175, cld175, .cell (some (.ref C172)), csl175⟩)
    (e196 : PySem.W.findIn K (.ref C172) "word" = some none)
    (e197 : PySem.W.findIn K (.ref C172) "record" = some none)
    (a199 : PySem.W.nsIn K mainGlobals "NoRecord" = some (some (.ref C198)))
    (e202 : K.lookup C198 = some (excClassObj nm201 qn201 C198 N201 bs201 bm201 true sn201 sub201 ab201 col201 dd201 k0201 k1201 k2201 k3201 k5201 "ValueError.__new__"))
    (e203 : PySem.HandSPX.refsVE bm201 = true)
    (e204 : PySem.W.findIn K (.ref C198) "__setattr__" = some (some (.builtin "object.__setattr__")))
    (e205 : PySem.W.findIn K (.ref C198) "__getattribute__" = some (some (.builtin "BaseException.__getattribute__")))
    (e206 : PySem.W.findIn K (.ref C198) "__getattr__" = some none)
    (e207 : PySem.W.findIn K (.ref C198) "__init__" = some (some (.ref f200)))
    (e208 : PySem.W.typeIn K (.ref f200) = some (.type "function"))
    (e209 : PySem.W.keepIn K (.ref C198) = true)
    (e210 : PySem.W.subIn K (.ref C198) (.type "BaseException") = some true)
    (e211 : PySem.W.subIn K (.ref C198) (.type "ValueError") = some true)
    (e212 : PySem.W.typeIn K (.ref C198) = some (.type "type"))
    (e213 : PySem.W.hasDictIn K C198 = true)
    (e214 : PySem.W.ks_superIn K C198 C198 "__init__" = some (some (.builtin "ValueError.__init__")))
    (e215 : PySem.W.mroIn K C198 (.ref C198) = some true)
    (e216 : PySem.W.exmOne K (.ref C198) (.ref C198) = some true)
    (e217 : K.lookup f200 = some ⟨oc201, od201, .func (PySem.W.ksFn "__init__" "NoRecord.__init__" (defArgs s_NoRecordU_initU) (defBody s_NoRecordU_initU) (defScope s_NoRecordU_initU) .none .none doc201 pm201 an201 (.ref cda201) ct201 cc201), osl201⟩)
    (e218 : PySem.W.codeIn K (.ref cda201) "NoRecord.__init__" = true)
    (e219 : K.lookup cda201 = some ⟨ccl201, cdd201, .fields vs201, ccs201⟩)
    (e220 : vs201[2]? = some (.str P.main.file tf201))
    (e221 : K.lookup cc201 = some ⟨cl201, cld201, .cell (some (.ref C198)), csl201⟩)
    (e222 : PySem.W.findIn K (.ref C198) "record" = some none)
    (a224 : PySem.W.nsIn K mainGlobals "BadWord" = some (some (.ref C223)))
    (e227 : K.lookup C223 = some (excClassObj nm226 qn226 C223 N226 bs226 bm226 true sn226 sub226 ab226 col226 dd226 k0226 k1226 k2226 k3226 k5226 "ValueError.__new__"))
    (e228 : PySem.HandSPX.refsVE bm226 = true)
    (e229 : PySem.W.findIn K (.ref C223) "__setattr__" = some (some (.builtin "object.__setattr__")))
    (e230 : PySem.W.findIn K (.ref C223) "__getattribute__" = some (some (.builtin "BaseException.__getattribute__")))
    (e231 : PySem.W.findIn K (.ref C223) "__getattr__" = some none)
    (e232 : PySem.W.findIn K (.ref C223) "__init__" = some (some (.ref f225)))
    (e233 : PySem.W.typeIn K (.ref f225) = some (.type "function"))
    (e234 : PySem.W.keepIn K (.ref C223) = true)
    (e235 : PySem.W.subIn K (.ref C223) (.type "BaseException") = some true)
    (e236 : PySem.W.subIn K (.ref C223) (.type "ValueError") = some true)
    (e237 : PySem.W.typeIn K (.ref C223) = some (.type "type"))
    (e238 : PySem.W.hasDictIn K C223 = true)
    (e239 : PySem.W.ks_superIn K C223 C223 "__init__" = some (some (.builtin "ValueError.__init__")))
    (e240 : PySem.W.mroIn K C223 (.ref C223) = some true)
    (e241 : PySem.W.exmOne K (.ref C223) (.ref C223) = some true)
    (e242 : K.lookup f225 = some ⟨oc226, od226, .func (PySem.W.ksFn "__init__" "BadWord.__init__" (defArgs s_BadWordU_initU) (defBody s_BadWordU_initU) (defScope s_BadWordU_initU) .none .none doc226 pm226 an226 (.ref cda226) ct226 cc226), osl226⟩)
    (e243 : PySem.W.codeIn K (.ref cda226) "BadWord.__init__" = true)
    (e244 : K.lookup cda226 = some ⟨ccl226, cdd226, .fields vs226, ccs226⟩)
    (e245 : vs226[2]? = some (.str P.main.file tf226))
    (e246 : K.lookup cc226 = some ⟨cl226, cld226, .cell (some (.ref C223)), csl226⟩)
    (e247 : PySem.W.findIn K (.ref C223) "word" = some none)
    (a249 : PySem.W.nsIn K mainGlobals "BadMode" = some (some (.ref C248)))
    (e252 : K.lookup C248 = some (excClassObj nm251 qn251 C248 N251 bs251 bm251 true sn251 sub251 ab251 col251 dd251 k0251 k1251 k2251 k3251 k5251 "ValueError.__new__"))
    (e253 : PySem.HandSPX.refsVE bm251 = true)
    (e254 : PySem.W.findIn K (.ref C248) "__setattr__" = some (some (.builtin "object.__setattr__")))
    (e255 : PySem.W.findIn K (.ref C248) "__getattribute__" = some (some (.builtin "BaseException.__getattribute__")))
    (e256 : PySem.W.findIn K (.ref C248) "__getattr__" = some none)
    (e257 : PySem.W.findIn K (.ref C248) "__init__" = some (some (.ref f250)))
    (e258 : PySem.W.typeIn K (.ref f250) = some (.type "function"))
    (e259 : PySem.W.keepIn K (.ref C248) = true)
    (e260 : PySem.W.subIn K (.ref C248) (.type "BaseException") = some true)
    (e261 : PySem.W.subIn K (.ref C248) (.type "ValueError") = some true)
    (e262 : PySem.W.typeIn K (.ref C248) = some (.type "type"))
    (e263 : PySem.W.hasDictIn K C248 = true)
    (e264 : PySem.W.ks_superIn K C248 C248 "__init__" = some (some (.builtin "ValueError.__init__")))
    (e265 : PySem.W.mroIn K C248 (.ref C248) = some true)
    (e266 : PySem.W.exmOne K (.ref C248) (.ref C248) = some true)
    (e267 : K.lookup f250 = some ⟨oc251, od251, .func (PySem.W.ksFn "__init__" "BadMode.__init__" (defArgs s_BadModeU_initU) (defBody s_BadModeU_initU) (defScope s_BadModeU_initU) .none .none doc251 pm251 an251 (.ref cda251) ct251 cc251), osl251⟩)
    (e268 : PySem.W.codeIn K (.ref cda251) "BadMode.__init__" = true)
    (e269 : K.lookup cda251 = some ⟨ccl251, cdd251, .fields vs251, ccs251⟩)
    (e270 : vs251[2]? = some (.str P.main.file tf251))
    (e271 : K.lookup cc251 = some ⟨cl251, cld251, .cell (some (.ref C248)), csl251⟩)
    (e272 : PySem.W.findIn K (.ref C248) "mode" = some none)
    (z273 : PySem.W.exmOne K (.ref C123) (.ref C97) = some false)
    (a275 : PySem.W.nsIn K mainGlobals "Write" = some (some (.ref C274)))
    (q276 : PySem.W.plainGet K C274 Str.empty = true)
    (q277 : PySem.W.hasDictIn K C274 = true)
    (q278 : PySem.W.plainOver K C274 = true)
    (q279 : PySem.W.findIn K (.ref C274) "__setattr__" = some (some (.builtin "object.__setattr__")))
    (z280 : PySem.W.findIn K (.ref C274) "record" = some none)
    (z281 : PySem.W.findIn K (.ref C274) "value" = some none)
    (z282 : PySem.W.findIn K (.ref C274) "fate" = some none)
    (z283 : PySem.W.findIn K (.ref C274) "holder" = some none)
    (z284 : PySem.W.findIn K (.ref C274) "level" = some none)
    (q286 : PySem.W.makesIn K C274 = true)
    (q287 : PySem.W.findIn K (.ref C274) "__init__" = some (some (.ref f285)))
    (q288 : PySem.W.isFn K (.ref f285) = true)
    (q289 : PySem.W.keepIn K (.ref C274) = true)
    (l290 : K.lookup f285 = some ⟨oc290, od290, .func (PySem.W.fnOf "__init__" "Write.__init__" (defArgs s_WriteU_initU) (defBody s_WriteU_initU) (defScope s_WriteU_initU) .none kV290 dc290 pm290 an290 cd290 ct290), sl290⟩)
    (c290 : PySem.W.codeIn K cd290 "Write.__init__" = true)
    (k290 : PySem.W.keepIn K (.ref f285) = true)
    (a292 : PySem.W.nsIn K mainGlobals "Transaction" = some (some (.ref C291)))
    (q293 : PySem.W.plainGet K C291 Str.empty = true)
    (q294 : PySem.W.hasDictIn K C291 = true)
    (q295 : PySem.W.plainOver K C291 = true)
    (q296 : PySem.W.findIn K (.ref C291) "__setattr__" = some (some (.builtin "object.__setattr__")))
    (z297 : PySem.W.findIn K (.ref C291) "number" = some none)
    (z298 : PySem.W.findIn K (.ref C291) "reasons" = some none)
    (q300 : PySem.W.makesIn K C291 = true)
    (q301 : PySem.W.findIn K (.ref C291) "__init__" = some (some (.ref f299)))
    (q302 : PySem.W.isFn K (.ref f299) = true)
    (q303 : PySem.W.keepIn K (.ref C291) = true)
    (l304 : K.lookup f299 = some ⟨oc304, od304, .func (PySem.W.fnOf "__init__" "Transaction.__init__" (defArgs s_TransactionU_initU) (defBody s_TransactionU_initU) (defScope s_TransactionU_initU) .none kV304 dc304 pm304 an304 cd304 ct304), sl304⟩)
    (c304 : PySem.W.codeIn K cd304 "Transaction.__init__" = true)
    (k304 : PySem.W.keepIn K (.ref f299) = true)
    (a306 : PySem.W.nsIn K mainGlobals "Database" = some (some (.ref C305)))
    (q307 : PySem.W.plainGet K C305 Str.empty = true)
    (q308 : PySem.W.hasDictIn K C305 = true)
    (q309 : PySem.W.plainOver K C305 = true)
    (q310 : PySem.W.findIn K (.ref C305) "__setattr__" = some (some (.builtin "object.__setattr__")))
    (z311 : PySem.W.findIn K (.ref C305) "rows" = some none)
    (z312 : PySem.W.findIn K (.ref C305) "stack" = some none)
    (z313 : PySem.W.findIn K (.ref C305) "entered" = some none)
    (z314 : PySem.W.findIn K (.ref C305) "floor" = some none)
    (z315 : PySem.W.findIn K (.ref C305) "opened" = some none)
    (q317 : PySem.W.makesIn K C305 = true)
    (q318 : PySem.W.findIn K (.ref C305) "__init__" = some (some (.ref f316)))
    (q319 : PySem.W.isFn K (.ref f316) = true)
    (q320 : PySem.W.keepIn K (.ref C305) = true)
    (l321 : K.lookup f316 = some ⟨oc321, od321, .func (PySem.W.fnOf "__init__" "Database.__init__" (defArgs s_DatabaseU_initU) (defBody s_DatabaseU_initU) (defScope s_DatabaseU_initU) .none kV321 dc321 pm321 an321 cd321 ct321), sl321⟩)
    (c321 : PySem.W.codeIn K cd321 "Database.__init__" = true)
    (k321 : PySem.W.keepIn K (.ref f316) = true)
    (q323 : PySem.W.findIn K (.ref C305) "begin" = some (some (.ref f322)))
    (q324 : PySem.W.isFn K (.ref f322) = true)
    (l325 : K.lookup f322 = some ⟨oc325, od325, .func (PySem.W.fnOf "begin" "Database.begin" (defArgs s_Database_begin) (defBody s_Database_begin) (defScope s_Database_begin) .none kV325 dc325 pm325 an325 cd325 ct325), sl325⟩)
    (c325 : PySem.W.codeIn K cd325 "Database.begin" = true)
    (k325 : PySem.W.keepIn K (.ref f322) = true)
    (q327 : PySem.W.findIn K (.ref C305) "enter_alone" = some (some (.ref f326)))
    (q328 : PySem.W.isFn K (.ref f326) = true)
    (l329 : K.lookup f326 = some ⟨oc329, od329, .func (PySem.W.fnOf "enter_alone" "Database.enter_alone" (defArgs s_Database_enter_alone) (defBody s_Database_enter_alone) (defScope s_Database_enter_alone) .none kV329 dc329 pm329 an329 cd329 ct329), sl329⟩)
    (c329 : PySem.W.codeIn K cd329 "Database.enter_alone" = true)
    (k329 : PySem.W.keepIn K (.ref f326) = true)
    (q331 : PySem.W.findIn K (.ref C305) "enter_inside" = some (some (.ref f330)))
    (q332 : PySem.W.isFn K (.ref f330) = true)
    (l333 : K.lookup f330 = some ⟨oc333, od333, .func (PySem.W.fnOf "enter_inside" "Database.enter_inside" (defArgs s_Database_enter_inside) (defBody s_Database_enter_inside) (defScope s_Database_enter_inside) .none kV333 dc333 pm333 an333 cd333 ct333), sl333⟩)
    (c333 : PySem.W.codeIn K cd333 "Database.enter_inside" = true)
    (k333 : PySem.W.keepIn K (.ref f330) = true)
    (q335 : PySem.W.findIn K (.ref C305) "enter" = some (some (.ref f334)))
    (q336 : PySem.W.isFn K (.ref f334) = true)
    (l337 : K.lookup f334 = some ⟨oc337, od337, .func (PySem.W.fnOf "enter" "Database.enter" (defArgs s_Database_enter) (defBody s_Database_enter) (defScope s_Database_enter) .none kV337 dc337 pm337 an337 cd337 ct337), sl337⟩)
    (c337 : PySem.W.codeIn K cd337 "Database.enter" = true)
    (k337 : PySem.W.keepIn K (.ref f334) = true)
    (q339 : PySem.W.findIn K (.ref C305) "doom" = some (some (.ref f338)))
    (q340 : PySem.W.isFn K (.ref f338) = true)
    (l341 : K.lookup f338 = some ⟨oc341, od341, .func (PySem.W.fnOf "doom" "Database.doom" (defArgs s_Database_doom) (defBody s_Database_doom) (defScope s_Database_doom) (.ref T342) kV341 dc341 pm341 an341 cd341 ct341), sl341⟩)
    (c341 : PySem.W.codeIn K cd341 "Database.doom" = true)
    (k341 : PySem.W.keepIn K (.ref f338) = true)
    (lT348 : K.lookup T342 = some ⟨oc343, od344, .seq #[.str "doom" t347] on345, os346⟩)
    (q350 : PySem.W.findIn K (.ref C305) "end_level" = some (some (.ref f349)))
    (q351 : PySem.W.isFn K (.ref f349) = true)
    (l352 : K.lookup f349 = some ⟨oc352, od352, .func (PySem.W.fnOf "end_level" "Database.end_level" (defArgs s_Database_end_level) (defBody s_Database_end_level) (defScope s_Database_end_level) .none kV352 dc352 pm352 an352 cd352 ct352), sl352⟩)
    (c352 : PySem.W.codeIn K cd352 "Database.end_level" = true)
    (k352 : PySem.W.keepIn K (.ref f349) = true)
    (q354 : PySem.W.findIn K (.ref C305) "end_transaction" = some (some (.ref f353)))
    (q355 : PySem.W.isFn K (.ref f353) = true)
    (l356 : K.lookup f353 = some ⟨oc356, od356, .func (PySem.W.fnOf "end_transaction" "Database.end_transaction" (defArgs s_Database_end_transaction) (defBody s_Database_end_transaction) (defScope s_Database_end_transaction) .none kV356 dc356 pm356 an356 cd356 ct356), sl356⟩)
    (c356 : PySem.W.codeIn K cd356 "Database.end_transaction" = true)
    (k356 : PySem.W.keepIn K (.ref f353) = true)
    (q358 : PySem.W.findIn K (.ref C305) "leave" = some (some (.ref f357)))
    (q359 : PySem.W.isFn K (.ref f357) = true)
    (l360 : K.lookup f357 = some ⟨oc360, od360, .func (PySem.W.fnOf "leave" "Database.leave" (defArgs s_Database_leave) (defBody s_Database_leave) (defScope s_Database_leave) (.ref T361) (.ref D368) dc360 pm360 an360 cd360 ct360), sl360⟩)
    (c360 : PySem.W.codeIn K cd360 "Database.leave" = true)
    (k360 : PySem.W.keepIn K (.ref f357) = true)
    (lT367 : K.lookup T361 = some ⟨oc362, od363, .seq #[.none] on364, os365⟩)
    (z370 : PySem.W.nsIn K D368 "commits" = some (some (.bool true)))
    (q372 : PySem.W.findIn K (.ref C305) "held_by" = some (some (.ref f371)))
    (q373 : PySem.W.isFn K (.ref f371) = true)
    (l374 : K.lookup f371 = some ⟨oc374, od374, .func (PySem.W.fnOf "held_by" "Database.held_by" (defArgs s_Database_held_by) (defBody s_Database_held_by) (defScope s_Database_held_by) .none kV374 dc374 pm374 an374 cd374 ct374), sl374⟩)
    (c374 : PySem.W.codeIn K cd374 "Database.held_by" = true)
    (k374 : PySem.W.keepIn K (.ref f371) = true)
    (q376 : PySem.W.findIn K (.ref C305) "outer_records" = some (some (.ref f375)))
    (q377 : PySem.W.isFn K (.ref f375) = true)
    (l378 : K.lookup f375 = some ⟨oc378, od378, .func (PySem.W.fnOf "outer_records" "Database.outer_records" (defArgs s_Database_outer_records) (defBody s_Database_outer_records) (defScope s_Database_outer_records) .none kV378 dc378 pm378 an378 cd378 ct378), sl378⟩)
    (c378 : PySem.W.codeIn K cd378 "Database.outer_records" = true)
    (k378 : PySem.W.keepIn K (.ref f375) = true)
    (q380 : PySem.W.findIn K (.ref C305) "would_wait" = some (some (.ref f379)))
    (q381 : PySem.W.isFn K (.ref f379) = true)
    (l382 : K.lookup f379 = some ⟨oc382, od382, .func (PySem.W.fnOf "would_wait" "Database.would_wait" (defArgs s_Database_would_wait) (defBody s_Database_would_wait) (defScope s_Database_would_wait) .none kV382 dc382 pm382 an382 cd382 ct382), sl382⟩)
    (c382 : PySem.W.codeIn K cd382 "Database.would_wait" = true)
    (k382 : PySem.W.keepIn K (.ref f379) = true)
    (q384 : PySem.W.findIn K (.ref C305) "write" = some (some (.ref f383)))
    (q385 : PySem.W.isFn K (.ref f383) = true)
    (l386 : K.lookup f383 = some ⟨oc386, od386, .func (PySem.W.fnOf "write" "Database.write" (defArgs s_Database_write) (defBody s_Database_write) (defScope s_Database_write) .none kV386 dc386 pm386 an386 cd386 ct386), sl386⟩)
    (c386 : PySem.W.codeIn K cd386 "Database.write" = true)
    (k386 : PySem.W.keepIn K (.ref f383) = true)
    (q388 : PySem.W.findIn K (.ref C305) "__setitem__" = some (some (.ref f387)))
    (q389 : PySem.W.isFn K (.ref f387) = true)
    (l390 : K.lookup f387 = some ⟨oc390, od390, .func (PySem.W.fnOf "__setitem__" "Database.__setitem__" (defArgs s_DatabaseU_setitemU) (defBody s_DatabaseU_setitemU) (defScope s_DatabaseU_setitemU) .none kV390 dc390 pm390 an390 cd390 ct390), sl390⟩)
    (c390 : PySem.W.codeIn K cd390 "Database.__setitem__" = true)
    (k390 : PySem.W.keepIn K (.ref f387) = true)
    (q392 : PySem.W.findIn K (.ref C305) "fates" = some (some (.ref f391)))
    (q393 : PySem.W.isFn K (.ref f391) = true)
    (l394 : K.lookup f391 = some ⟨oc394, od394, .func (PySem.W.fnOf "fates" "Database.fates" (defArgs s_Database_fates) (defBody s_Database_fates) (defScope s_Database_fates) .none kV394 dc394 pm394 an394 cd394 ct394), sl394⟩)
    (c394 : PySem.W.codeIn K cd394 "Database.fates" = true)
    (k394 : PySem.W.keepIn K (.ref f391) = true)
    (q398 : PySem.W.findIn K (.ref C305) "is_open" = some (some (.ref p396)))
    (q399 : PySem.W.specialIn K (.ref p396) "__get__" = some (some (.builtin "property.__get__")))
    (q400 : PySem.W.takesIn K (.ref p396) = some true)
    (q401 : PySem.W.recIn K p396 "property" = some (.ref f395 :: rs397))
    (l402 : K.lookup f395 = some ⟨oc402, od402, .func (PySem.W.fnOf "is_open" "Database.is_open" (defArgs s_Database_is_open) (defBody s_Database_is_open) (defScope s_Database_is_open) .none kV402 dc402 pm402 an402 cd402 ct402), sl402⟩)
    (c402 : PySem.W.codeIn K cd402 "Database.is_open" = true)
    (k402 : PySem.W.keepIn K (.ref f395) = true)
    (q406 : PySem.W.findIn K (.ref C305) "levels" = some (some (.ref p404)))
    (q407 : PySem.W.specialIn K (.ref p404) "__get__" = some (some (.builtin "property.__get__")))
    (q408 : PySem.W.takesIn K (.ref p404) = some true)
    (q409 : PySem.W.recIn K p404 "property" = some (.ref f403 :: rs405))
    (l410 : K.lookup f403 = some ⟨oc410, od410, .func (PySem.W.fnOf "levels" "Database.levels" (defArgs s_Database_levels) (defBody s_Database_levels) (defScope s_Database_levels) .none kV410 dc410 pm410 an410 cd410 ct410), sl410⟩)
    (c410 : PySem.W.codeIn K cd410 "Database.levels" = true)
    (k410 : PySem.W.keepIn K (.ref f403) = true)
    (z411 : PySem.W.noSeq K C305 = true)
    (a413 : PySem.W.nsIn K mainGlobals "_law_pool" = some (some (.ref f412)))
    (l414 : K.lookup f412 = some ⟨oc414, od414, .func (PySem.W.fnOf "_law_pool" "_law_pool" (defArgs s_law_pool) (defBody s_law_pool) (defScope s_law_pool) .none kV414 dc414 pm414 an414 cd414 ct414), sl414⟩)
    (c414 : PySem.W.codeIn K cd414 "_law_pool" = true)
    (k414 : PySem.W.keepIn K (.ref f412) = true)
    (a416 : PySem.W.nsIn K mainGlobals "_law_draw" = some (some (.ref f415)))
    (l417 : K.lookup f415 = some ⟨oc417, od417, .func (PySem.W.fnOf "_law_draw" "_law_draw" (defArgs s_law_draw) (defBody s_law_draw) (defScope s_law_draw) .none kV417 dc417 pm417 an417 cd417 ct417), sl417⟩)
    (c417 : PySem.W.codeIn K cd417 "_law_draw" = true)
    (k417 : PySem.W.keepIn K (.ref f415) = true)
    (a419 : PySem.W.nsIn K mainGlobals "_law_word" = some (some (.ref f418)))
    (l420 : K.lookup f418 = some ⟨oc420, od420, .func (PySem.W.fnOf "_law_word" "_law_word" (defArgs s_law_word) (defBody s_law_word) (defScope s_law_word) .none kV420 dc420 pm420 an420 cd420 ct420), sl420⟩)
    (c420 : PySem.W.codeIn K cd420 "_law_word" = true)
    (k420 : PySem.W.keepIn K (.ref f418) = true)
    (a422 : PySem.W.nsIn K mainGlobals "_law_fates" = some (some (.ref f421)))
    (l423 : K.lookup f421 = some ⟨oc423, od423, .func (PySem.W.fnOf "_law_fates" "_law_fates" (defArgs s_law_fates) (defBody s_law_fates) (defScope s_law_fates) .none kV423 dc423 pm423 an423 cd423 ct423), sl423⟩)
    (c423 : PySem.W.codeIn K cd423 "_law_fates" = true)
    (k423 : PySem.W.keepIn K (.ref f421) = true)
    (a425 : PySem.W.nsIn K mainGlobals "_law_leave" = some (some (.ref f424)))
    (l426 : K.lookup f424 = some ⟨oc426, od426, .func (PySem.W.fnOf "_law_leave" "_law_leave" (defArgs s_law_leave) (defBody s_law_leave) (defScope s_law_leave) .none kV426 dc426 pm426 an426 cd426 ct426), sl426⟩)
    (c426 : PySem.W.codeIn K cd426 "_law_leave" = true)
    (k426 : PySem.W.keepIn K (.ref f424) = true)
    (a428 : PySem.W.nsIn K mainGlobals "_law_write" = some (some (.ref f427)))
    (l429 : K.lookup f427 = some ⟨oc429, od429, .func (PySem.W.fnOf "_law_write" "_law_write" (defArgs s_law_write) (defBody s_law_write) (defScope s_law_write) .none kV429 dc429 pm429 an429 cd429 ct429), sl429⟩)
    (c429 : PySem.W.codeIn K cd429 "_law_write" = true)
    (k429 : PySem.W.keepIn K (.ref f427) = true)
    (a431 : PySem.W.nsIn K mainGlobals "_law_fill" = some (some (.ref f430)))
    (l432 : K.lookup f430 = some ⟨oc432, od432, .func (PySem.W.fnOf "_law_fill" "_law_fill" (defArgs s_law_fill) (defBody s_law_fill) (defScope s_law_fill) .none kV432 dc432 pm432 an432 cd432 ct432), sl432⟩)
    (c432 : PySem.W.codeIn K cd432 "_law_fill" = true)
    (k432 : PySem.W.keepIn K (.ref f430) = true)
    (a434 : PySem.W.nsIn K mainGlobals "_law_around" = some (some (.ref f433)))
    (l435 : K.lookup f433 = some ⟨oc435, od435, .func (PySem.W.fnOf "_law_around" "_law_around" (defArgs s_law_around) (defBody s_law_around) (defScope s_law_around) .none kV435 dc435 pm435 an435 cd435 ct435), sl435⟩)
    (c435 : PySem.W.codeIn K cd435 "_law_around" = true)
    (k435 : PySem.W.keepIn K (.ref f433) = true)
    (l436 : K.lookup fa = some ⟨oc436, od436, .func (PySem.W.fnOf "law" "law" (defArgs s_law) (defBody s_law) (defScope s_law) .none kV436 dc436 pm436 an436 cd436 ct436), sl436⟩)
    (c436 : PySem.W.codeIn K cd436 "law" = true)
    (k436 : PySem.W.keepIn K (.ref fa) = true)
    (z437 : PySem.W.nsIn K mainGlobals "isinstance" = some none)
    (z438 : PySem.W.nsIn K mainGlobals "str" = some none)
    (z439 : PySem.W.nsIn K mainGlobals "len" = some none)
    (z440 : PySem.W.nsIn K mainGlobals "super" = some none)
    (z441 : PySem.W.nsIn K mainGlobals "sorted" = some none)
    (z442 : PySem.W.nsIn K mainGlobals "abs" = some none)
    (z443 : PySem.W.nsIn K mainGlobals "int" = some none)
    (z444 : PySem.W.nsIn K mainGlobals "range" = some none)
    (z445 : PySem.W.nsIn K mainGlobals "list" = some none)
    (z446 : PySem.W.nsIn K mainGlobals "max" = some none)
    (z447 : PySem.W.nsIn K mainGlobals "min" = some none)
    : ∃ fd : FuncData, (∀ (s : Shared) (v : Value), BindsTo s fd ⟨[v], []⟩ [("_law_script", v)]) ∧ ∀ base : Heap, K.In base → base.Ns mainGlobals mg → FnOk P w K mg base CX0 9 fa fd ["_law_script"] (spLaw K) := by
  have F40 := fun_mk (st := s_Mode_is_mode) l40 c40 k40
  have b40 := F40.binds (ps := ["thing"]) fun _ _ _ _ _ _ us hl => match us, hl with | [_], _ => rfl
  have F43 := fun_mk (st := s_is_word) l43 c43 k43
  have b43 := F43.binds (ps := ["thing"]) fun _ _ _ _ _ _ us hl => match us, hl with | [_], _ => rfl
  have F290 := fun_mk (st := s_WriteU_initU) l290 c290 k290
  have b290 := F290.binds (ps := ["self", "record", "value", "fate", "holder", "level"]) fun _ _ _ _ _ _ us hl => match us, hl with | [_, _, _, _, _, _], _ => rfl
  have F304 := fun_mk (st := s_TransactionU_initU) l304 c304 k304
  have b304 := F304.binds (ps := ["self", "number"]) fun _ _ _ _ _ _ us hl => match us, hl with | [_, _], _ => rfl
  have F321 := fun_mk (st := s_DatabaseU_initU) l321 c321 k321
  have b321 := F321.binds (ps := ["self"]) fun _ _ _ _ _ _ us hl => match us, hl with | [_], _ => rfl
  have F325 := fun_mk (st := s_Database_begin) l325 c325 k325
  have b325 := F325.binds (ps := ["self"]) fun _ _ _ _ _ _ us hl => match us, hl with | [_], _ => rfl
  have F329 := fun_mk (st := s_Database_enter_alone) l329 c329 k329
  have b329 := F329.binds (ps := ["self", "mode"]) fun _ _ _ _ _ _ us hl => match us, hl with | [_, _], _ => rfl
  have F333 := fun_mk (st := s_Database_enter_inside) l333 c333 k333
  have b333 := F333.binds (ps := ["self", "mode", "present"]) fun _ _ _ _ _ _ us hl => match us, hl with | [_, _, _], _ => rfl
  have F337 := fun_mk (st := s_Database_enter) l337 c337 k337
  have b337 := F337.binds (ps := ["self", "mode"]) fun _ _ _ _ _ _ us hl => match us, hl with | [_, _], _ => rfl
  have F341 : FunD K "doom" "Database.doom" (defArgs s_Database_doom) (defBody s_Database_doom) (defScope s_Database_doom) [.str "doom"] []  f338 (PySem.W.fnOf "doom" "Database.doom" (defArgs s_Database_doom) (defBody s_Database_doom) (defScope s_Database_doom) (.ref T342) kV341 dc341 pm341 an341 cd341 ct341) := ⟨⟨_, _, _, _, _, _, _, _, _, _, rfl, l341, c341, .inr ⟨by decide, _, _, _, _, rfl, lT348, rfl, (.cons ⟨_, rfl⟩ .nil)⟩, .inl rfl⟩, k341⟩
  have F352 := fun_mk (st := s_Database_end_level) l352 c352 k352
  have b352 := F352.binds (ps := ["self", "error"]) fun _ _ _ _ _ _ us hl => match us, hl with | [_, _], _ => rfl
  have F356 := fun_mk (st := s_Database_end_transaction) l356 c356 k356
  have b356 := F356.binds (ps := ["self", "error", "commits"]) fun _ _ _ _ _ _ us hl => match us, hl with | [_, _, _], _ => rfl
  have F360 : FunD K "leave" "Database.leave" (defArgs s_Database_leave) (defBody s_Database_leave) (defScope s_Database_leave) [.non] [("commits", .bl true)]  f357 (PySem.W.fnOf "leave" "Database.leave" (defArgs s_Database_leave) (defBody s_Database_leave) (defScope s_Database_leave) (.ref T361) (.ref D368) dc360 pm360 an360 cd360 ct360) := ⟨⟨_, _, _, _, _, _, _, _, _, _, rfl, l360, c360, .inr ⟨by decide, _, _, _, _, rfl, lT367, rfl, (.cons rfl .nil)⟩, .inr ⟨_, rfl, fun q hq => by
      rcases List.mem_cons.mp hq with rfl | hq
      · exact ⟨_, z370, rfl⟩
      · exact absurd hq (by simp)⟩⟩, k360⟩
  have F374 := fun_mk (st := s_Database_held_by) l374 c374 k374
  have b374 := F374.binds (ps := ["self", "numbers"]) fun _ _ _ _ _ _ us hl => match us, hl with | [_, _], _ => rfl
  have F378 := fun_mk (st := s_Database_outer_records) l378 c378 k378
  have b378 := F378.binds (ps := ["self"]) fun _ _ _ _ _ _ us hl => match us, hl with | [_], _ => rfl
  have F382 := fun_mk (st := s_Database_would_wait) l382 c382 k382
  have b382 := F382.binds (ps := ["self", "record"]) fun _ _ _ _ _ _ us hl => match us, hl with | [_, _], _ => rfl
  have F386 := fun_mk (st := s_Database_write) l386 c386 k386
  have b386 := F386.binds (ps := ["self", "record", "value"]) fun _ _ _ _ _ _ us hl => match us, hl with | [_, _, _], _ => rfl
  have F390 := fun_mk (st := s_DatabaseU_setitemU) l390 c390 k390
  have b390 := F390.binds (ps := ["self", "record", "value"]) fun _ _ _ _ _ _ us hl => match us, hl with | [_, _, _], _ => rfl
  have F394 := fun_mk (st := s_Database_fates) l394 c394 k394
  have b394 := F394.binds (ps := ["self"]) fun _ _ _ _ _ _ us hl => match us, hl with | [_], _ => rfl
  have F402 := fun_mk (st := s_Database_is_open) l402 c402 k402
  have b402 := F402.binds (ps := ["self"]) fun _ _ _ _ _ _ us hl => match us, hl with | [_], _ => rfl
  have F410 := fun_mk (st := s_Database_levels) l410 c410 k410
  have b410 := F410.binds (ps := ["self"]) fun _ _ _ _ _ _ us hl => match us, hl with | [_], _ => rfl
  have F414 := fun_mk (st := s_law_pool) l414 c414 k414
  have b414 := F414.binds (ps := ["_law_script", "_law_at"]) fun _ _ _ _ _ _ us hl => match us, hl with | [_, _], _ => rfl
  have F417 := fun_mk (st := s_law_draw) l417 c417 k417
  have b417 := F417.binds (ps := ["_law_pool_here", "_law_many"]) fun _ _ _ _ _ _ us hl => match us, hl with | [_, _], _ => rfl
  have F420 := fun_mk (st := s_law_word) l420 c420 k420
  have b420 := F420.binds (ps := ["_law_pool_here"]) fun _ _ _ _ _ _ us hl => match us, hl with | [_], _ => rfl
  have F423 := fun_mk (st := s_law_fates) l423 c423 k423
  have b423 := F423.binds (ps := ["_law_db", "_law_records"]) fun _ _ _ _ _ _ us hl => match us, hl with | [_, _], _ => rfl
  have F426 := fun_mk (st := s_law_leave) l426 c426 k426
  have b426 := F426.binds (ps := ["_law_db", "_law_error", "_law_goes"]) fun _ _ _ _ _ _ us hl => match us, hl with | [_, _, _], _ => rfl
  have F429 := fun_mk (st := s_law_write) l429 c429 k429
  have b429 := F429.binds (ps := ["_law_pool_here", "_law_db", "_law_records", "_law_prefix"]) fun _ _ _ _ _ _ us hl => match us, hl with | [_, _, _, _], _ => rfl
  have F432 := fun_mk (st := s_law_fill) l432 c432 k432
  have b432 := F432.binds (ps := ["_law_pool_here", "_law_db", "_law_records"]) fun _ _ _ _ _ _ us hl => match us, hl with | [_, _, _], _ => rfl
  have F435 := fun_mk (st := s_law_around) l435 c435 k435
  have b435 := F435.binds (ps := ["_law_pool_here", "_law_db"]) fun _ _ _ _ _ _ us hl => match us, hl with | [_, _], _ => rfl
  have F436 := fun_mk (st := s_law) l436 c436 k436
  have b436 := F436.binds (ps := ["_law_script"]) fun _ _ _ _ _ _ us hl => match us, hl with | [_], _ => rfl
  have T : Txt K mg ⟨C1, p22, f35, p36, f41, C45, f47, C71, f73, C97, f99, C123, f125, C148, f150, C172, f174, C198, f200, C223, f225, C248, f250, C274, f285, C291, f299, C305, f316, f322, f326, f330, f334, f338, f349, f353, f357, f371, f375, f379, f383, f387, f391, f395, p396, f403, p404, f412, f415, f418, f421, f424, f427, f430, f433, fa⟩ ⟨PySem.W.fnOf "is_mode" "Mode.is_mode" (defArgs s_Mode_is_mode) (defBody s_Mode_is_mode) (defScope s_Mode_is_mode) .none kV40 dc40 pm40 an40 cd40 ct40, PySem.W.fnOf "is_word" "is_word" (defArgs s_is_word) (defBody s_is_word) (defScope s_is_word) .none kV43 dc43 pm43 an43 cd43 ct43, PySem.W.fnOf "__init__" "Write.__init__" (defArgs s_WriteU_initU) (defBody s_WriteU_initU) (defScope s_WriteU_initU) .none kV290 dc290 pm290 an290 cd290 ct290, PySem.W.fnOf "__init__" "Transaction.__init__" (defArgs s_TransactionU_initU) (defBody s_TransactionU_initU) (defScope s_TransactionU_initU) .none kV304 dc304 pm304 an304 cd304 ct304, PySem.W.fnOf "__init__" "Database.__init__" (defArgs s_DatabaseU_initU) (defBody s_DatabaseU_initU) (defScope s_DatabaseU_initU) .none kV321 dc321 pm321 an321 cd321 ct321, PySem.W.fnOf "begin" "Database.begin" (defArgs s_Database_begin) (defBody s_Database_begin) (defScope s_Database_begin) .none kV325 dc325 pm325 an325 cd325 ct325, PySem.W.fnOf "enter_alone" "Database.enter_alone" (defArgs s_Database_enter_alone) (defBody s_Database_enter_alone) (defScope s_Database_enter_alone) .none kV329 dc329 pm329 an329 cd329 ct329, PySem.W.fnOf "enter_inside" "Database.enter_inside" (defArgs s_Database_enter_inside) (defBody s_Database_enter_inside) (defScope s_Database_enter_inside) .none kV333 dc333 pm333 an333 cd333 ct333, PySem.W.fnOf "enter" "Database.enter" (defArgs s_Database_enter) (defBody s_Database_enter) (defScope s_Database_enter) .none kV337 dc337 pm337 an337 cd337 ct337, PySem.W.fnOf "doom" "Database.doom" (defArgs s_Database_doom) (defBody s_Database_doom) (defScope s_Database_doom) (.ref T342) kV341 dc341 pm341 an341 cd341 ct341, PySem.W.fnOf "end_level" "Database.end_level" (defArgs s_Database_end_level) (defBody s_Database_end_level) (defScope s_Database_end_level) .none kV352 dc352 pm352 an352 cd352 ct352, PySem.W.fnOf "end_transaction" "Database.end_transaction" (defArgs s_Database_end_transaction) (defBody s_Database_end_transaction) (defScope s_Database_end_transaction) .none kV356 dc356 pm356 an356 cd356 ct356, PySem.W.fnOf "leave" "Database.leave" (defArgs s_Database_leave) (defBody s_Database_leave) (defScope s_Database_leave) (.ref T361) (.ref D368) dc360 pm360 an360 cd360 ct360, PySem.W.fnOf "held_by" "Database.held_by" (defArgs s_Database_held_by) (defBody s_Database_held_by) (defScope s_Database_held_by) .none kV374 dc374 pm374 an374 cd374 ct374, PySem.W.fnOf "outer_records" "Database.outer_records" (defArgs s_Database_outer_records) (defBody s_Database_outer_records) (defScope s_Database_outer_records) .none kV378 dc378 pm378 an378 cd378 ct378, PySem.W.fnOf "would_wait" "Database.would_wait" (defArgs s_Database_would_wait) (defBody s_Database_would_wait) (defScope s_Database_would_wait) .none kV382 dc382 pm382 an382 cd382 ct382, PySem.W.fnOf "write" "Database.write" (defArgs s_Database_write) (defBody s_Database_write) (defScope s_Database_write) .none kV386 dc386 pm386 an386 cd386 ct386, PySem.W.fnOf "__setitem__" "Database.__setitem__" (defArgs s_DatabaseU_setitemU) (defBody s_DatabaseU_setitemU) (defScope s_DatabaseU_setitemU) .none kV390 dc390 pm390 an390 cd390 ct390, PySem.W.fnOf "fates" "Database.fates" (defArgs s_Database_fates) (defBody s_Database_fates) (defScope s_Database_fates) .none kV394 dc394 pm394 an394 cd394 ct394, PySem.W.fnOf "is_open" "Database.is_open" (defArgs s_Database_is_open) (defBody s_Database_is_open) (defScope s_Database_is_open) .none kV402 dc402 pm402 an402 cd402 ct402, PySem.W.fnOf "levels" "Database.levels" (defArgs s_Database_levels) (defBody s_Database_levels) (defScope s_Database_levels) .none kV410 dc410 pm410 an410 cd410 ct410, PySem.W.fnOf "_law_pool" "_law_pool" (defArgs s_law_pool) (defBody s_law_pool) (defScope s_law_pool) .none kV414 dc414 pm414 an414 cd414 ct414, PySem.W.fnOf "_law_draw" "_law_draw" (defArgs s_law_draw) (defBody s_law_draw) (defScope s_law_draw) .none kV417 dc417 pm417 an417 cd417 ct417, PySem.W.fnOf "_law_word" "_law_word" (defArgs s_law_word) (defBody s_law_word) (defScope s_law_word) .none kV420 dc420 pm420 an420 cd420 ct420, PySem.W.fnOf "_law_fates" "_law_fates" (defArgs s_law_fates) (defBody s_law_fates) (defScope s_law_fates) .none kV423 dc423 pm423 an423 cd423 ct423, PySem.W.fnOf "_law_leave" "_law_leave" (defArgs s_law_leave) (defBody s_law_leave) (defScope s_law_leave) .none kV426 dc426 pm426 an426 cd426 ct426, PySem.W.fnOf "_law_write" "_law_write" (defArgs s_law_write) (defBody s_law_write) (defScope s_law_write) .none kV429 dc429 pm429 an429 cd429 ct429, PySem.W.fnOf "_law_fill" "_law_fill" (defArgs s_law_fill) (defBody s_law_fill) (defScope s_law_fill) .none kV432 dc432 pm432 an432 cd432 ct432, PySem.W.fnOf "_law_around" "_law_around" (defArgs s_law_around) (defBody s_law_around) (defScope s_law_around) .none kV435 dc435 pm435 an435 cd435 ct435, PySem.W.fnOf "law" "law" (defArgs s_law) (defBody s_law) (defScope s_law) .none kV436 dc436 pm436 an436 cd436 ct436⟩ := ⟨PySem.W.mg_of X G a2, ⟨r3, s4⟩, ⟨_, z5, ⟨_, rfl⟩⟩, ⟨_, z7, ⟨_, rfl⟩⟩, ⟨_, z9, ⟨_, rfl⟩⟩, ⟨_, z11, ⟨_, rfl⟩⟩, ⟨_, z13, ⟨_, rfl⟩⟩, ⟨_, z15, ⟨_, rfl⟩⟩, ⟨_, z17, ⟨_, rfl⟩⟩, ⟨_, z19, ⟨_, rfl⟩⟩, ⟨_, z21, rfl⟩, fun H => .inr ⟨_, _, _, l23, rfl, rfl, sz_le rfl, (.cons ⟨_, rfl⟩ (.cons ⟨_, rfl⟩ (.cons ⟨_, rfl⟩ (.cons ⟨_, rfl⟩ (.cons ⟨_, rfl⟩ (.cons ⟨_, rfl⟩ (.cons ⟨_, rfl⟩ (.cons ⟨_, rfl⟩ .nil))))))))⟩, ⟨_, l23, rfl⟩, F40, b40, ⟨z37, _, r38⟩, F43, b43, PySem.W.mg_of X G a42, PySem.W.mg_of X G a46, ec_Missing e49 e50 e51 e52 e53 e54 e55 e56 e57 e58 e59 e60 e61 e62 e63 z44 e64 e65 e66 e67 e68 e69 e70, PySem.W.mg_of X G a72, ec_Present e75 e76 e77 e78 e79 e80 e81 e82 e83 e84 e85 e86 e87 e88 e89 z44 e90 e91 e92 e93 e94 e95 e96, PySem.W.mg_of X G a98, ec_Doomed e101 e102 e103 e104 e105 e106 e107 e108 e109 e110 e111 e112 e113 e114 e115 z44 e116 e117 e118 e119 e120 e121 e122, PySem.W.mg_of X G a124, ec_Refused e127 e128 e129 e130 e131 e132 e133 e134 e135 e136 e137 e138 e139 e140 e141 z44 e142 e143 e144 e145 e146 e147, PySem.W.mg_of X G a149, ec_NoBlock e152 e153 e154 e155 e156 e157 e158 e159 e160 e161 e162 e163 e164 e165 e166 z44 e167 e168 e169 e170 e171 , PySem.W.mg_of X G a173, ec_Waits e176 e177 e178 e179 e180 e181 e182 e183 e184 e185 e186 e187 e188 e189 e190 z44 e191 e192 e193 e194 e195 e196 e197, PySem.W.mg_of X G a199, ec_NoRecord e202 e203 e204 e205 e206 e207 e208 e209 e210 e211 e212 e213 e214 e215 e216 z44 e217 e218 e219 e220 e221 e222, PySem.W.mg_of X G a224, ec_BadWord e227 e228 e229 e230 e231 e232 e233 e234 e235 e236 e237 e238 e239 e240 e241 z44 e242 e243 e244 e245 e246 e247, PySem.W.mg_of X G a249, ec_BadMode e252 e253 e254 e255 e256 e257 e258 e259 e260 e261 e262 e263 e264 e265 e266 z44 e267 e268 e269 e270 e271 e272, z273, PySem.W.mg_of X G a275, ⟨q276, q277, q278, q279⟩, z280, z281, z282, z283, z284, F290, b290, ⟨q286, q287, q288, q289⟩, PySem.W.mg_of X G a292, ⟨q293, q294, q295, q296⟩, z297, z298, F304, b304, ⟨q300, q301, q302, q303⟩, PySem.W.mg_of X G a306, ⟨q307, q308, q309, q310⟩, z311, z312, z313, z314, z315, F321, b321, ⟨q317, q318, q319, q320⟩, F325, b325, ⟨q323, q324, k325⟩, F329, b329, ⟨q327, q328, k329⟩, F333, b333, ⟨q331, q332, k333⟩, F337, b337, ⟨q335, q336, k337⟩, F341, ⟨q339, q340, k341⟩, F352, b352, ⟨q350, q351, k352⟩, F356, b356, ⟨q354, q355, k356⟩, F360, ⟨q358, q359, k360⟩, F374, b374, ⟨q372, q373, k374⟩, F378, b378, ⟨q376, q377, k378⟩, F382, b382, ⟨q380, q381, k382⟩, F386, b386, ⟨q384, q385, k386⟩, F390, b390, ⟨q388, q389, k390⟩, F394, b394, ⟨q392, q393, k394⟩, F402, b402, ⟨q398, q399, q400, _, q401⟩, F410, b410, ⟨q406, q407, q408, _, q409⟩, z411, F414, b414, PySem.W.mg_of X G a413, F417, b417, PySem.W.mg_of X G a416, F420, b420, PySem.W.mg_of X G a419, F423, b423, PySem.W.mg_of X G a422, F426, b426, PySem.W.mg_of X G a425, F429, b429, PySem.W.mg_of X G a428, F432, b432, PySem.W.mg_of X G a431, F435, b435, PySem.W.mg_of X G a434, F436, b436, hfa, PySem.W.mg_none_of X G z437, PySem.W.mg_none_of X G z438, PySem.W.mg_none_of X G z439, PySem.W.mg_none_of X G z440, PySem.W.mg_none_of X G z441, PySem.W.mg_none_of X G z442, PySem.W.mg_none_of X G z443, PySem.W.mg_none_of X G z444, PySem.W.mg_none_of X G z445, PySem.W.mg_none_of X G z446, PySem.W.mg_none_of X G z447⟩
  exact ⟨_, fun s v => .of_eq rfl, fun base _ _ => ok_law T⟩
theorem all_mk' {w : World} {K : PySem.W.Frag} {h : Heap} {mg : Str → Option Value} {fa f0 : Addr} (X : K.In h) (G : h.Ns mainGlobals mg) (hfa0 : mg "law" = some (.ref fa))
    {C1 : Addr}
    {t6 : Tok}
    {t8 : Tok}
    {t10 : Tok}
    {t12 : Tok}
    {t14 : Tok}
    {t16 : Tok}
    {t18 : Tok}
    {t20 : Tok}
    {t24 t25 t26 t27 t28 t29 t30 t31 : Tok} {p22 : Addr} {dd32 : Option Addr} {nn33 : Nat} {sl34 : Array (Option Value)}
    {f35 p36 : Addr} {rs39 : List Value}
    {od40 an40 : Option Addr} {sl40 : Array (Option Value)} {oc40 kV40 dc40 pm40 cd40 ct40 : Value}
    {f41 : Addr}
    {od43 an43 : Option Addr} {sl43 : Array (Option Value)} {oc43 kV43 dc43 pm43 cd43 ct43 : Value}
    {C45 : Addr}
    {f47 : Addr} {nm48 qn48 : Str} {N48 : Addr} {bs48 bm48 : List Value} {sn48 : List Str} {sub48 : List Value} {ab48 : Bool} {col48 : Option Bool} {dd48 : Option Addr} {k048 k148 k248 k348 k548 : Option Value}
    {oc48 : Value} {od48 : Option Addr} {doc48 pm48 : Value} {an48 : Option Addr} {cda48 cc48 : Addr} {ct48 : Value} {osl48 : Array (Option Value)} {ccl48 : Value} {cdd48 : Option Addr} {vs48 : Array Value} {ccs48 : Array (Option Value)} {tf48 : Tok} {cl48 : Value} {cld48 : Option Addr} {csl48 : Array (Option Value)}
    {C71 : Addr}
    {f73 : Addr} {nm74 qn74 : Str} {N74 : Addr} {bs74 bm74 : List Value} {sn74 : List Str} {sub74 : List Value} {ab74 : Bool} {col74 : Option Bool} {dd74 : Option Addr} {k074 k174 k274 k374 k574 : Option Value}
    {oc74 : Value} {od74 : Option Addr} {doc74 pm74 : Value} {an74 : Option Addr} {cda74 cc74 : Addr} {ct74 : Value} {osl74 : Array (Option Value)} {ccl74 : Value} {cdd74 : Option Addr} {vs74 : Array Value} {ccs74 : Array (Option Value)} {tf74 : Tok} {cl74 : Value} {cld74 : Option Addr} {csl74 : Array (Option Value)}
    {C97 : Addr}
    {f99 : Addr} {nm100 qn100 : Str} {N100 : Addr} {bs100 bm100 : List Value} {sn100 : List Str} {sub100 : List Value} {ab100 : Bool} {col100 : Option Bool} {dd100 : Option Addr} {k0100 k1100 k2100 k3100 k5100 : Option Value}
    {oc100 : Value} {od100 : Option Addr} {doc100 pm100 : Value} {an100 : Option Addr} {cda100 cc100 : Addr} {ct100 : Value} {osl100 : Array (Option Value)} {ccl100 : Value} {cdd100 : Option Addr} {vs100 : Array Value} {ccs100 : Array (Option Value)} {tf100 : Tok} {cl100 : Value} {cld100 : Option Addr} {csl100 : Array (Option Value)}
    {C123 : Addr}
    {f125 : Addr} {nm126 qn126 : Str} {N126 : Addr} {bs126 bm126 : List Value} {sn126 : List Str} {sub126 : List Value} {ab126 : Bool} {col126 : Option Bool} {dd126 : Option Addr} {k0126 k1126 k2126 k3126 k5126 : Option Value}
    {oc126 : Value} {od126 : Option Addr} {doc126 pm126 : Value} {an126 : Option Addr} {cda126 cc126 : Addr} {ct126 : Value} {osl126 : Array (Option Value)} {ccl126 : Value} {cdd126 : Option Addr} {vs126 : Array Value} {ccs126 : Array (Option Value)} {tf126 : Tok} {cl126 : Value} {cld126 : Option Addr} {csl126 : Array (Option Value)}
    {C148 : Addr}
    {f150 : Addr} {nm151 qn151 : Str} {N151 : Addr} {bs151 bm151 : List Value} {sn151 : List Str} {sub151 : List Value} {ab151 : Bool} {col151 : Option Bool} {dd151 : Option Addr} {k0151 k1151 k2151 k3151 k5151 : Option Value}
    {oc151 : Value} {od151 : Option Addr} {doc151 pm151 : Value} {an151 : Option Addr} {cda151 cc151 : Addr} {ct151 : Value} {osl151 : Array (Option Value)} {ccl151 : Value} {cdd151 : Option Addr} {vs151 : Array Value} {ccs151 : Array (Option Value)} {tf151 : Tok} {cl151 : Value} {cld151 : Option Addr} {csl151 : Array (Option Value)}
    {C172 : Addr}
    {f174 : Addr} {nm175 qn175 : Str} {N175 : Addr} {bs175 bm175 : List Value} {sn175 : List Str} {sub175 : List Value} {ab175 : Bool} {col175 : Option Bool} {dd175 : Option Addr} {k0175 k1175 k2175 k3175 k5175 : Option Value}
    {oc175 : Value} {od175 : Option Addr} {doc175 pm175 : Value} {an175 : Option Addr} {cda175 cc175 : Addr} {ct175 : Value} {osl175 : Array (Option Value)} {ccl175 : Value} {cdd175 : Option Addr} {vs175 : Array Value} {ccs175 : Array (Option Value)} {tf175 : Tok} {cl175 : Value} {cld175 : Option Addr} {csl175 : Array (Option Value)}
    {C198 : Addr}
    {f200 : Addr} {nm201 qn201 : Str} {N201 : Addr} {bs201 bm201 : List Value} {sn201 : List Str} {sub201 : List Value} {ab201 : Bool} {col201 : Option Bool} {dd201 : Option Addr} {k0201 k1201 k2201 k3201 k5201 : Option Value}
    {oc201 : Value} {od201 : Option Addr} {doc201 pm201 : Value} {an201 : Option Addr} {cda201 cc201 : Addr} {ct201 : Value} {osl201 : Array (Option Value)} {ccl201 : Value} {cdd201 : Option Addr} {vs201 : Array Value} {ccs201 : Array (Option Value)} {tf201 : Tok} {cl201 : Value} {cld201 : Option Addr} {csl201 : Array (Option Value)}
    {C223 : Addr}
    {f225 : Addr} {nm226 qn226 : Str} {N226 : Addr} {bs226 bm226 : List Value} {sn226 : List Str} {sub226 : List Value} {ab226 : Bool} {col226 : Option Bool} {dd226 : Option Addr} {k0226 k1226 k2226 k3226 k5226 : Option Value}
    {oc226 : Value} {od226 : Option Addr} {doc226 pm226 : Value} {an226 : Option Addr} {cda226 cc226 : Addr} {ct226 : Value} {osl226 : Array (Option Value)} {ccl226 : Value} {cdd226 : Option Addr} {vs226 : Array Value} {ccs226 : Array (Option Value)} {tf226 : Tok} {cl226 : Value} {cld226 : Option Addr} {csl226 : Array (Option Value)}
    {C248 : Addr}
    {f250 : Addr} {nm251 qn251 : Str} {N251 : Addr} {bs251 bm251 : List Value} {sn251 : List Str} {sub251 : List Value} {ab251 : Bool} {col251 : Option Bool} {dd251 : Option Addr} {k0251 k1251 k2251 k3251 k5251 : Option Value}
    {oc251 : Value} {od251 : Option Addr} {doc251 pm251 : Value} {an251 : Option Addr} {cda251 cc251 : Addr} {ct251 : Value} {osl251 : Array (Option Value)} {ccl251 : Value} {cdd251 : Option Addr} {vs251 : Array Value} {ccs251 : Array (Option Value)} {tf251 : Tok} {cl251 : Value} {cld251 : Option Addr} {csl251 : Array (Option Value)}
    {C274 : Addr}
    {f285 : Addr}
    {od290 an290 : Option Addr} {sl290 : Array (Option Value)} {oc290 kV290 dc290 pm290 cd290 ct290 : Value}
    {C291 : Addr}
    {f299 : Addr}
    {od304 an304 : Option Addr} {sl304 : Array (Option Value)} {oc304 kV304 dc304 pm304 cd304 ct304 : Value}
    {C305 : Addr}
    {f316 : Addr}
    {od321 an321 : Option Addr} {sl321 : Array (Option Value)} {oc321 kV321 dc321 pm321 cd321 ct321 : Value}
    {f322 : Addr}
    {od325 an325 : Option Addr} {sl325 : Array (Option Value)} {oc325 kV325 dc325 pm325 cd325 ct325 : Value}
    {f326 : Addr}
    {od329 an329 : Option Addr} {sl329 : Array (Option Value)} {oc329 kV329 dc329 pm329 cd329 ct329 : Value}
    {f330 : Addr}
    {od333 an333 : Option Addr} {sl333 : Array (Option Value)} {oc333 kV333 dc333 pm333 cd333 ct333 : Value}
    {f334 : Addr}
    {od337 an337 : Option Addr} {sl337 : Array (Option Value)} {oc337 kV337 dc337 pm337 cd337 ct337 : Value}
    {f338 : Addr}
    {od341 an341 : Option Addr} {sl341 : Array (Option Value)} {oc341 dc341 pm341 cd341 ct341 : Value}
    {T342 : Addr} {oc343 : Value} {od344 : Option Addr} {on345 : Nat} {os346 : Array (Option Value)}
    {t347 : Tok}
    {kV341 : Value}
    {f349 : Addr}
    {od352 an352 : Option Addr} {sl352 : Array (Option Value)} {oc352 kV352 dc352 pm352 cd352 ct352 : Value}
    {f353 : Addr}
    {od356 an356 : Option Addr} {sl356 : Array (Option Value)} {oc356 kV356 dc356 pm356 cd356 ct356 : Value}
    {f357 : Addr}
    {od360 an360 : Option Addr} {sl360 : Array (Option Value)} {oc360 dc360 pm360 cd360 ct360 : Value}
    {T361 : Addr} {oc362 : Value} {od363 : Option Addr} {on364 : Nat} {os365 : Array (Option Value)}
    {D368 : Addr}
    {f371 : Addr}
    {od374 an374 : Option Addr} {sl374 : Array (Option Value)} {oc374 kV374 dc374 pm374 cd374 ct374 : Value}
    {f375 : Addr}
    {od378 an378 : Option Addr} {sl378 : Array (Option Value)} {oc378 kV378 dc378 pm378 cd378 ct378 : Value}
    {f379 : Addr}
    {od382 an382 : Option Addr} {sl382 : Array (Option Value)} {oc382 kV382 dc382 pm382 cd382 ct382 : Value}
    {f383 : Addr}
    {od386 an386 : Option Addr} {sl386 : Array (Option Value)} {oc386 kV386 dc386 pm386 cd386 ct386 : Value}
    {f387 : Addr}
    {od390 an390 : Option Addr} {sl390 : Array (Option Value)} {oc390 kV390 dc390 pm390 cd390 ct390 : Value}
    {f391 : Addr}
    {od394 an394 : Option Addr} {sl394 : Array (Option Value)} {oc394 kV394 dc394 pm394 cd394 ct394 : Value}
    {f395 p396 : Addr} {rs397 : List Value}
    {od402 an402 : Option Addr} {sl402 : Array (Option Value)} {oc402 kV402 dc402 pm402 cd402 ct402 : Value}
    {f403 p404 : Addr} {rs405 : List Value}
    {od410 an410 : Option Addr} {sl410 : Array (Option Value)} {oc410 kV410 dc410 pm410 cd410 ct410 : Value}
    {f412 : Addr}
    {od414 an414 : Option Addr} {sl414 : Array (Option Value)} {oc414 kV414 dc414 pm414 cd414 ct414 : Value}
    {f415 : Addr}
    {od417 an417 : Option Addr} {sl417 : Array (Option Value)} {oc417 kV417 dc417 pm417 cd417 ct417 : Value}
    {f418 : Addr}
    {od420 an420 : Option Addr} {sl420 : Array (Option Value)} {oc420 kV420 dc420 pm420 cd420 ct420 : Value}
    {f421 : Addr}
    {od423 an423 : Option Addr} {sl423 : Array (Option Value)} {oc423 kV423 dc423 pm423 cd423 ct423 : Value}
    {f424 : Addr}
    {od426 an426 : Option Addr} {sl426 : Array (Option Value)} {oc426 kV426 dc426 pm426 cd426 ct426 : Value}
    {f427 : Addr}
    {od429 an429 : Option Addr} {sl429 : Array (Option Value)} {oc429 kV429 dc429 pm429 cd429 ct429 : Value}
    {f430 : Addr}
    {od432 an432 : Option Addr} {sl432 : Array (Option Value)} {oc432 kV432 dc432 pm432 cd432 ct432 : Value}
    {f433 : Addr}
    {od435 an435 : Option Addr} {sl435 : Array (Option Value)} {oc435 kV435 dc435 pm435 cd435 ct435 : Value}
    {od436 an436 : Option Addr} {sl436 : Array (Option Value)} {oc436 kV436 dc436 pm436 cd436 ct436 : Value}
    (a0 : PySem.W.nsIn K mainGlobals "law" = some (some (.ref f0)))
    (a2 : PySem.W.nsIn K mainGlobals "Mode" = some (some (.ref C1)))
    (r3 : PySem.W.readsIn K C1 (.type "type") = true)
    (s4 : PySem.W.specialIn K (.ref C1) "__getattribute__" = some (some (.builtin "type.__getattribute__")))
    (z5 : PySem.W.findCls K (.ref C1) (.type "type") "JOIN" = some (.val (.str "join" t6)))
    (z7 : PySem.W.findCls K (.ref C1) (.type "type") "INNER" = some (.val (.str "inner" t8)))
    (z9 : PySem.W.findCls K (.ref C1) (.type "type") "APART" = some (.val (.str "apart" t10)))
    (z11 : PySem.W.findCls K (.ref C1) (.type "type") "MUST" = some (.val (.str "must" t12)))
    (z13 : PySem.W.findCls K (.ref C1) (.type "type") "EITHER" = some (.val (.str "either" t14)))
    (z15 : PySem.W.findCls K (.ref C1) (.type "type") "NEVER" = some (.val (.str "never" t16)))
    (z17 : PySem.W.findCls K (.ref C1) (.type "type") "OUTSIDE" = some (.val (.str "outside" t18)))
    (z19 : PySem.W.findCls K (.ref C1) (.type "type") "ALONE" = some (.val (.str "alone" t20)))
    (z21 : PySem.W.findCls K (.ref C1) (.type "type") "ALL" = some (.val (.ref p22)))
    (l23 : K.lookup p22 = some ⟨.type "tuple", dd32, .seq #[.str "join" t24, .str "inner" t25, .str "apart" t26, .str "must" t27, .str "either" t28, .str "never" t29, .str "outside" t30, .str "alone" t31] nn33, sl34⟩)
    (z37 : PySem.W.findCls K (.ref C1) (.type "type") "is_mode" = some (.get (.builtin "staticmethod.__get__") (.ref p36) .none (.ref C1)))
    (r38 : PySem.W.recIn K p36 "staticmethod" = some (.ref f35 :: rs39))
    (l40 : K.lookup f35 = some ⟨oc40, od40, .func (PySem.W.fnOf "is_mode" "Mode.is_mode" (defArgs s_Mode_is_mode) (defBody s_Mode_is_mode) (defScope s_Mode_is_mode) .none kV40 dc40 pm40 an40 cd40 ct40), sl40⟩)
    (c40 : PySem.W.codeIn K cd40 "Mode.is_mode" = true)
    (k40 : PySem.W.keepIn K (.ref f35) = true)
    (a42 : PySem.W.nsIn K mainGlobals "is_word" = some (some (.ref f41)))
    (l43 : K.lookup f41 = some ⟨oc43, od43, .func (PySem.W.fnOf "is_word" "is_word" (defArgs s_is_word) (defBody s_is_word) (defScope s_is_word) .none kV43 dc43 pm43 an43 cd43 ct43), sl43⟩)
    (c43 : PySem.W.codeIn K cd43 "is_word" = true)
    (k43 : PySem.W.keepIn K (.ref f41) = true)
    (z44 : PySem.W.nsIn K cStatics "thirdparty.any" = some none)
    (a46 : PySem.W.nsIn K mainGlobals "Missing" = some (some (.ref C45)))
    (e49 : K.lookup C45 = some (excClassObj nm48 qn48 C45 N48 bs48 bm48 true sn48 sub48 ab48 col48 dd48 k048 k148 k248 k348 k548 "ValueError.__new__"))
    (e50 : PySem.HandSPX.refsVE bm48 = true)
    (e51 : PySem.W.findIn K (.ref C45) "__setattr__" = some (some (.builtin "object.__setattr__")))
    (e52 : PySem.W.findIn K (.ref C45) "__getattribute__" = some (some (.builtin "BaseException.__getattribute__")))
    (e53 : PySem.W.findIn K (.ref C45) "__getattr__" = some none)
    (e54 : PySem.W.findIn K (.ref C45) "__init__" = some (some (.ref f47)))
    (e55 : PySem.W.typeIn K (.ref f47) = some (.type "function"))
    (e56 : PySem.W.keepIn K (.ref C45) = true)
    (e57 : PySem.W.subIn K (.ref C45) (.type "BaseException") = some true)
    (e58 : PySem.W.subIn K (.ref C45) (.type "ValueError") = some true)
    (e59 : PySem.W.typeIn K (.ref C45) = some (.type "type"))
    (e60 : PySem.W.hasDictIn K C45 = true)
    (e61 : PySem.W.ks_superIn K C45 C45 "__init__" = some (some (.builtin "ValueError.__init__")))
    (e62 : PySem.W.mroIn K C45 (.ref C45) = some true)
    (e63 : PySem.W.exmOne K (.ref C45) (.ref C45) = some true)
    (e64 : K.lookup f47 = some ⟨oc48, od48, .func (PySem.W.ksFn "__init__" "Missing.__init__" (defArgs s_MissingU_initU) (defBody s_MissingU_initU) (defScope s_MissingU_initU) .none .none doc48 pm48 an48 (.ref cda48) ct48 cc48), osl48⟩)
    (e65 : PySem.W.codeIn K (.ref cda48) "Missing.__init__" = true)
    (e66 : K.lookup cda48 = some ⟨ccl48, cdd48, .fields vs48, ccs48⟩)
    (e67 : vs48[2]? = some (.str P.main.file tf48))
    (e68 : K.lookup cc48 = some ⟨cl48, cld48, .cell (some (.ref C45)), csl48⟩)
    (e69 : PySem.W.findIn K (.ref C45) "word" = some none)
    (e70 : PySem.W.findIn K (.ref C45) "mode" = some none)
    (a72 : PySem.W.nsIn K mainGlobals "Present" = some (some (.ref C71)))
    (e75 : K.lookup C71 = some (excClassObj nm74 qn74 C71 N74 bs74 bm74 true sn74 sub74 ab74 col74 dd74 k074 k174 k274 k374 k574 "ValueError.__new__"))
    (e76 : PySem.HandSPX.refsVE bm74 = true)
    (e77 : PySem.W.findIn K (.ref C71) "__setattr__" = some (some (.builtin "object.__setattr__")))
    (e78 : PySem.W.findIn K (.ref C71) "__getattribute__" = some (some (.builtin "BaseException.__getattribute__")))
    (e79 : PySem.W.findIn K (.ref C71) "__getattr__" = some none)
    (e80 : PySem.W.findIn K (.ref C71) "__init__" = some (some (.ref f73)))
    (e81 : PySem.W.typeIn K (.ref f73) = some (.type "function"))
    (e82 : PySem.W.keepIn K (.ref C71) = true)
    (e83 : PySem.W.subIn K (.ref C71) (.type "BaseException") = some true)
    (e84 : PySem.W.subIn K (.ref C71) (.type "ValueError") = some true)
    (e85 : PySem.W.typeIn K (.ref C71) = some (.type "type"))
    (e86 : PySem.W.hasDictIn K C71 = true)
    (e87 : PySem.W.ks_superIn K C71 C71 "__init__" = some (some (.builtin "ValueError.__init__")))
    (e88 : PySem.W.mroIn K C71 (.ref C71) = some true)
    (e89 : PySem.W.exmOne K (.ref C71) (.ref C71) = some true)
    (e90 : K.lookup f73 = some ⟨oc74, od74, .func (PySem.W.ksFn "__init__" "Present.__init__" (defArgs s_PresentU_initU) (defBody s_PresentU_initU) (defScope s_PresentU_initU) .none .none doc74 pm74 an74 (.ref cda74) ct74 cc74), osl74⟩)
    (e91 : PySem.W.codeIn K (.ref cda74) "Present.__init__" = true)
    (e92 : K.lookup cda74 = some ⟨ccl74, cdd74, .fields vs74, ccs74⟩)
    (e93 : vs74[2]? = some (.str P.main.file tf74))
    (e94 : K.lookup cc74 = some ⟨cl74, cld74, .cell (some (.ref C71)), csl74⟩)
    (e95 : PySem.W.findIn K (.ref C71) "word" = some none)
    (e96 : PySem.W.findIn K (.ref C71) "mode" = some none)
    (a98 : PySem.W.nsIn K mainGlobals "Doomed" = some (some (.ref C97)))
    (e101 : K.lookup C97 = some (excClassObj nm100 qn100 C97 N100 bs100 bm100 true sn100 sub100 ab100 col100 dd100 k0100 k1100 k2100 k3100 k5100 "ValueError.__new__"))
    (e102 : PySem.HandSPX.refsVE bm100 = true)
    (e103 : PySem.W.findIn K (.ref C97) "__setattr__" = some (some (.builtin "object.__setattr__")))
    (e104 : PySem.W.findIn K (.ref C97) "__getattribute__" = some (some (.builtin "BaseException.__getattribute__")))
    (e105 : PySem.W.findIn K (.ref C97) "__getattr__" = some none)
    (e106 : PySem.W.findIn K (.ref C97) "__init__" = some (some (.ref f99)))
    (e107 : PySem.W.typeIn K (.ref f99) = some (.type "function"))
    (e108 : PySem.W.keepIn K (.ref C97) = true)
    (e109 : PySem.W.subIn K (.ref C97) (.type "BaseException") = some true)
    (e110 : PySem.W.subIn K (.ref C97) (.type "ValueError") = some true)
    (e111 : PySem.W.typeIn K (.ref C97) = some (.type "type"))
    (e112 : PySem.W.hasDictIn K C97 = true)
    (e113 : PySem.W.ks_superIn K C97 C97 "__init__" = some (some (.builtin "ValueError.__init__")))
    (e114 : PySem.W.mroIn K C97 (.ref C97) = some true)
    (e115 : PySem.W.exmOne K (.ref C97) (.ref C97) = some true)
    (e116 : K.lookup f99 = some ⟨oc100, od100, .func (PySem.W.ksFn "__init__" "Doomed.__init__" (defArgs s_DoomedU_initU) (defBody s_DoomedU_initU) (defScope s_DoomedU_initU) .none .none doc100 pm100 an100 (.ref cda100) ct100 cc100), osl100⟩)
    (e117 : PySem.W.codeIn K (.ref cda100) "Doomed.__init__" = true)
    (e118 : K.lookup cda100 = some ⟨ccl100, cdd100, .fields vs100, ccs100⟩)
    (e119 : vs100[2]? = some (.str P.main.file tf100))
    (e120 : K.lookup cc100 = some ⟨cl100, cld100, .cell (some (.ref C97)), csl100⟩)
    (e121 : PySem.W.findIn K (.ref C97) "word" = some none)
    (e122 : PySem.W.findIn K (.ref C97) "first" = some none)
    (a124 : PySem.W.nsIn K mainGlobals "Refused" = some (some (.ref C123)))
    (e127 : K.lookup C123 = some (excClassObj nm126 qn126 C123 N126 bs126 bm126 true sn126 sub126 ab126 col126 dd126 k0126 k1126 k2126 k3126 k5126 "ValueError.__new__"))
    (e128 : PySem.HandSPX.refsVE bm126 = true)
    (e129 : PySem.W.findIn K (.ref C123) "__setattr__" = some (some (.builtin "object.__setattr__")))
    (e130 : PySem.W.findIn K (.ref C123) "__getattribute__" = some (some (.builtin "BaseException.__getattribute__")))
    (e131 : PySem.W.findIn K (.ref C123) "__getattr__" = some none)
    (e132 : PySem.W.findIn K (.ref C123) "__init__" = some (some (.ref f125)))
    (e133 : PySem.W.typeIn K (.ref f125) = some (.type "function"))
    (e134 : PySem.W.keepIn K (.ref C123) = true)
    (e135 : PySem.W.subIn K (.ref C123) (.type "BaseException") = some true)
    (e136 : PySem.W.subIn K (.ref C123) (.type "ValueError") = some true)
    (e137 : PySem.W.typeIn K (.ref C123) = some (.type "type"))
    (e138 : PySem.W.hasDictIn K C123 = true)
    (e139 : PySem.W.ks_superIn K C123 C123 "__init__" = some (some (.builtin "ValueError.__init__")))
    (e140 : PySem.W.mroIn K C123 (.ref C123) = some true)
    (e141 : PySem.W.exmOne K (.ref C123) (.ref C123) = some true)
    (e142 : K.lookup f125 = some ⟨oc126, od126, .func (PySem.W.ksFn "__init__" "Refused.__init__" (defArgs s_RefusedU_initU) (defBody s_RefusedU_initU) (defScope s_RefusedU_initU) .none .none doc126 pm126 an126 (.ref cda126) ct126 cc126), osl126⟩)
    (e143 : PySem.W.codeIn K (.ref cda126) "Refused.__init__" = true)
    (e144 : K.lookup cda126 = some ⟨ccl126, cdd126, .fields vs126, ccs126⟩)
    (e145 : vs126[2]? = some (.str P.main.file tf126))
    (e146 : K.lookup cc126 = some ⟨cl126, cld126, .cell (some (.ref C123)), csl126⟩)
    (e147 : PySem.W.findIn K (.ref C123) "word" = some none)
    (a149 : PySem.W.nsIn K mainGlobals "NoBlock" = some (some (.ref C148)))
    (e152 : K.lookup C148 = some (excClassObj nm151 qn151 C148 N151 bs151 bm151 true sn151 sub151 ab151 col151 dd151 k0151 k1151 k2151 k3151 k5151 "ValueError.__new__"))
    (e153 : PySem.HandSPX.refsVE bm151 = true)
    (e154 : PySem.W.findIn K (.ref C148) "__setattr__" = some (some (.builtin "object.__setattr__")))
    (e155 : PySem.W.findIn K (.ref C148) "__getattribute__" = some (some (.builtin "BaseException.__getattribute__")))
    (e156 : PySem.W.findIn K (.ref C148) "__getattr__" = some none)
    (e157 : PySem.W.findIn K (.ref C148) "__init__" = some (some (.ref f150)))
    (e158 : PySem.W.typeIn K (.ref f150) = some (.type "function"))
    (e159 : PySem.W.keepIn K (.ref C148) = true)
    (e160 : PySem.W.subIn K (.ref C148) (.type "BaseException") = some true)
    (e161 : PySem.W.subIn K (.ref C148) (.type "ValueError") = some true)
    (e162 : PySem.W.typeIn K (.ref C148) = some (.type "type"))
    (e163 : PySem.W.hasDictIn K C148 = true)
    (e164 : PySem.W.ks_superIn K C148 C148 "__init__" = some (some (.builtin "ValueError.__init__")))
    (e165 : PySem.W.mroIn K C148 (.ref C148) = some true)
    (e166 : PySem.W.exmOne K (.ref C148) (.ref C148) = some true)
    (e167 : K.lookup f150 = some ⟨oc151, od151, .func (PySem.W.ksFn "__init__" "NoBlock.__init__" (defArgs s_NoBlockU_initU) (defBody s_NoBlockU_initU) (defScope s_NoBlockU_initU) .none .none doc151 pm151 an151 (.ref cda151) ct151 cc151), osl151⟩)
    (e168 : PySem.W.codeIn K (.ref cda151) "NoBlock.__init__" = true)
    (e169 : K.lookup cda151 = some ⟨ccl151, cdd151, .fields vs151, ccs151⟩)
    (e170 : vs151[2]? = some (.str P.main.file tf151))
    (e171 : K.lookup cc151 = some ⟨cl151, cld151, .cell (some (.ref C148)), csl151⟩)
    (a173 : PySem.W.nsIn K mainGlobals "Waits" = some (some (.ref C172)))
    (e176 : K.lookup C172 = some (excClassObj nm175 qn175 C172 N175 bs175 bm175 true sn175 sub175 ab175 col175 dd175 k0175 k1175 k2175 k3175 k5175 "ValueError.__new__"))
    (e177 : PySem.HandSPX.refsVE bm175 = true)
    (e178 : PySem.W.findIn K (.ref C172) "__setattr__" = some (some (.builtin "object.__setattr__")))
    (e179 : PySem.W.findIn K (.ref C172) "__getattribute__" = some (some (.builtin "BaseException.__getattribute__")))
    (e180 : PySem.W.findIn K (.ref C172) "__getattr__" = some none)
    (e181 : PySem.W.findIn K (.ref C172) "__init__" = some (some (.ref f174)))
    (e182 : PySem.W.typeIn K (.ref f174) = some (.type "function"))
    (e183 : PySem.W.keepIn K (.ref C172) = true)
    (e184 : PySem.W.subIn K (.ref C172) (.type "BaseException") = some true)
    (e185 : PySem.W.subIn K (.ref C172) (.type "ValueError") = some true)
    (e186 : PySem.W.typeIn K (.ref C172) = some (.type "type"))
    (e187 : PySem.W.hasDictIn K C172 = true)
    (e188 : PySem.W.ks_superIn K C172 C172 "__init__" = some (some (.builtin "ValueError.__init__")))
    (e189 : PySem.W.mroIn K C172 (.ref C172) = some true)
    (e190 : PySem.W.exmOne K (.ref C172) (.ref C172) = some true)
    (e191 : K.lookup f174 = some ⟨oc175, od175, .func (PySem.W.ksFn "__init__" "Waits.__init__" (defArgs s_WaitsU_initU) (defBody s_WaitsU_initU) (defScope s_WaitsU_initU) .none .none doc175 pm175 an175 (.ref cda175) ct175 cc175), osl175⟩)
    (e192 : PySem.W.codeIn K (.ref cda175) "Waits.__init__" = true)
    (e193 : K.lookup cda175 = some ⟨ccl175, cdd175, .fields vs175, ccs175⟩)
    (e194 : vs175[2]? = some (.str P.main.file tf175))
    (e195 : K.lookup cc175 = some ⟨cl175, cld175, .cell (some (.ref C172)), csl175⟩)
    (e196 : PySem.W.findIn K (.ref C172) "word" = some none)
    (e197 : PySem.W.findIn K (.ref C172) "record" = some none)
    (a199 : PySem.W.nsIn K mainGlobals "NoRecord" = some (some (.ref C198)))
    (e202 : K.lookup C198 = some (excClassObj nm201 qn201 C198 N201 bs201 bm201 true sn201 sub201 ab201 col201 dd201 k0201 k1201 k2201 k3201 k5201 "ValueError.__new__"))
    (e203 : PySem.HandSPX.refsVE bm201 = true)
    (e204 : PySem.W.findIn K (.ref C198) "__setattr__" = some (some (.builtin "object.__setattr__")))
    (e205 : PySem.W.findIn K (.ref C198) "__getattribute__" = some (some (.builtin "BaseException.__getattribute__")))
    (e206 : PySem.W.findIn K (.ref C198) "__getattr__" = some none)
    (e207 : PySem.W.findIn K (.ref C198) "__init__" = some (some (.ref f200)))
    (e208 : PySem.W.typeIn K (.ref f200) = some (.type "function"))
    (e209 : PySem.W.keepIn K (.ref C198) = true)
    (e210 : PySem.W.subIn K (.ref C198) (.type "BaseException") = some true)
    (e211 : PySem.W.subIn K (.ref C198) (.type "ValueError") = some true)
    (e212 : PySem.W.typeIn K (.ref C198) = some (.type "type"))
    (e213 : PySem.W.hasDictIn K C198 = true)
    (e214 : PySem.W.ks_superIn K C198 C198 "__init__" = some (some (.builtin "ValueError.__init__")))
    (e215 : PySem.W.mroIn K C198 (.ref C198) = some true)
    (e216 : PySem.W.exmOne K (.ref C198) (.ref C198) = some true)
    (e217 : K.lookup f200 = some ⟨oc201, od201, .func (PySem.W.ksFn "__init__" "NoRecord.__init__" (defArgs s_NoRecordU_initU) (defBody s_NoRecordU_initU) (defScope s_NoRecordU_initU) .none .none doc201 pm201 an201 (.ref cda201) ct201 cc201), osl201⟩)
    (e218 : PySem.W.codeIn K (.ref cda201) "NoRecord.__init__" = true)
    (e219 : K.lookup cda201 = some ⟨ccl201, cdd201, .fields vs201, ccs201⟩)
    (e220 : vs201[2]? = some (.str P.main.file tf201))
    (e221 : K.lookup cc201 = some ⟨cl201, cld201, .cell (some (.ref C198)), csl201⟩)
    (e222 : PySem.W.findIn K (.ref C198) "record" = some none)
    (a224 : PySem.W.nsIn K mainGlobals "BadWord" = some (some (.ref C223)))
    (e227 : K.lookup C223 = some (excClassObj nm226 qn226 C223 N226 bs226 bm226 true sn226 sub226 ab226 col226 dd226 k0226 k1226 k2226 k3226 k5226 "ValueError.__new__"))
    (e228 : PySem.HandSPX.refsVE bm226 = true)
    (e229 : PySem.W.findIn K (.ref C223) "__setattr__" = some (some (.builtin "object.__setattr__")))
    (e230 : PySem.W.findIn K (.ref C223) "__getattribute__" = some (some (.builtin "BaseException.__getattribute__")))
    (e231 : PySem.W.findIn K (.ref C223) "__getattr__" = some none)
    (e232 : PySem.W.findIn K (.ref C223) "__init__" = some (some (.ref f225)))
    (e233 : PySem.W.typeIn K (.ref f225) = some (.type "function"))
    (e234 : PySem.W.keepIn K (.ref C223) = true)
    (e235 : PySem.W.subIn K (.ref C223) (.type "BaseException") = some true)
    (e236 : PySem.W.subIn K (.ref C223) (.type "ValueError") = some true)
    (e237 : PySem.W.typeIn K (.ref C223) = some (.type "type"))
    (e238 : PySem.W.hasDictIn K C223 = true)
    (e239 : PySem.W.ks_superIn K C223 C223 "__init__" = some (some (.builtin "ValueError.__init__")))
    (e240 : PySem.W.mroIn K C223 (.ref C223) = some true)
    (e241 : PySem.W.exmOne K (.ref C223) (.ref C223) = some true)
    (e242 : K.lookup f225 = some ⟨oc226, od226, .func (PySem.W.ksFn "__init__" "BadWord.__init__" (defArgs s_BadWordU_initU) (defBody s_BadWordU_initU) (defScope s_BadWordU_initU) .none .none doc226 pm226 an226 (.ref cda226) ct226 cc226), osl226⟩)
    (e243 : PySem.W.codeIn K (.ref cda226) "BadWord.__init__" = true)
    (e244 : K.lookup cda226 = some ⟨ccl226, cdd226, .fields vs226, ccs226⟩)
    (e245 : vs226[2]? = some (.str P.main.file tf226))
    (e246 : K.lookup cc226 = some ⟨cl226, cld226, .cell (some (.ref C223)), csl226⟩)
    (e247 : PySem.W.findIn K (.ref C223) "word" = some none)
    (a249 : PySem.W.nsIn K mainGlobals "BadMode" = some (some (.ref C248)))
    (e252 : K.lookup C248 = some (excClassObj nm251 qn251 C248 N251 bs251 bm251 true sn251 sub251 ab251 col251 dd251 k0251 k1251 k2251 k3251 k5251 "ValueError.__new__"))
    (e253 : PySem.HandSPX.refsVE bm251 = true)
    (e254 : PySem.W.findIn K (.ref C248) "__setattr__" = some (some (.builtin "object.__setattr__")))
    (e255 : PySem.W.findIn K (.ref C248) "__getattribute__" = some (some (.builtin "BaseException.__getattribute__")))
    (e256 : PySem.W.findIn K (.ref C248) "__getattr__" = some none)
    (e257 : PySem.W.findIn K (.ref C248) "__init__" = some (some (.ref f250)))
    (e258 : PySem.W.typeIn K (.ref f250) = some (.type "function"))
    (e259 : PySem.W.keepIn K (.ref C248) = true)
    (e260 : PySem.W.subIn K (.ref C248) (.type "BaseException") = some true)
    (e261 : PySem.W.subIn K (.ref C248) (.type "ValueError") = some true)
    (e262 : PySem.W.typeIn K (.ref C248) = some (.type "type"))
    (e263 : PySem.W.hasDictIn K C248 = true)
    (e264 : PySem.W.ks_superIn K C248 C248 "__init__" = some (some (.builtin "ValueError.__init__")))
    (e265 : PySem.W.mroIn K C248 (.ref C248) = some true)
    (e266 : PySem.W.exmOne K (.ref C248) (.ref C248) = some true)
    (e267 : K.lookup f250 = some ⟨oc251, od251, .func (PySem.W.ksFn "__init__" "BadMode.__init__" (defArgs s_BadModeU_initU) (defBody s_BadModeU_initU) (defScope s_BadModeU_initU) .none .none doc251 pm251 an251 (.ref cda251) ct251 cc251), osl251⟩)
    (e268 : PySem.W.codeIn K (.ref cda251) "BadMode.__init__" = true)
    (e269 : K.lookup cda251 = some ⟨ccl251, cdd251, .fields vs251, ccs251⟩)
    (e270 : vs251[2]? = some (.str P.main.file tf251))
    (e271 : K.lookup cc251 = some ⟨cl251, cld251, .cell (some (.ref C248)), csl251⟩)
    (e272 : PySem.W.findIn K (.ref C248) "mode" = some none)
    (z273 : PySem.W.exmOne K (.ref C123) (.ref C97) = some false)
    (a275 : PySem.W.nsIn K mainGlobals "Write" = some (some (.ref C274)))
    (q276 : PySem.W.plainGet K C274 Str.empty = true)
    (q277 : PySem.W.hasDictIn K C274 = true)
    (q278 : PySem.W.plainOver K C274 = true)
    (q279 : PySem.W.findIn K (.ref C274) "__setattr__" = some (some (.builtin "object.__setattr__")))
    (z280 : PySem.W.findIn K (.ref C274) "record" = some none)
    (z281 : PySem.W.findIn K (.ref C274) "value" = some none)
    (z282 : PySem.W.findIn K (.ref C274) "fate" = some none)
    (z283 : PySem.W.findIn K (.ref C274) "holder" = some none)
    (z284 : PySem.W.findIn K (.ref C274) "level" = some none)
    (q286 : PySem.W.makesIn K C274 = true)
    (q287 : PySem.W.findIn K (.ref C274) "__init__" = some (some (.ref f285)))
    (q288 : PySem.W.isFn K (.ref f285) = true)
    (q289 : PySem.W.keepIn K (.ref C274) = true)
    (l290 : K.lookup f285 = some ⟨oc290, od290, .func (PySem.W.fnOf "__init__" "Write.__init__" (defArgs s_WriteU_initU) (defBody s_WriteU_initU) (defScope s_WriteU_initU) .none kV290 dc290 pm290 an290 cd290 ct290), sl290⟩)
    (c290 : PySem.W.codeIn K cd290 "Write.__init__" = true)
    (k290 : PySem.W.keepIn K (.ref f285) = true)
    (a292 : PySem.W.nsIn K mainGlobals "Transaction" = some (some (.ref C291)))
    (q293 : PySem.W.plainGet K C291 Str.empty = true)
    (q294 : PySem.W.hasDictIn K C291 = true)
    (q295 : PySem.W.plainOver K C291 = true)
    (q296 : PySem.W.findIn K (.ref C291) "__setattr__" = some (some (.builtin "object.__setattr__")))
    (z297 : PySem.W.findIn K (.ref C291) "number" = some none)
    (z298 : PySem.W.findIn K (.ref C291) "reasons" = some none)
    (q300 : PySem.W.makesIn K C291 = true)
    (q301 : PySem.W.findIn K (.ref C291) "__init__" = some (some (.ref f299)))
    (q302 : PySem.W.isFn K (.ref f299) = true)
    (q303 : PySem.W.keepIn K (.ref C291) = true)
    (l304 : K.lookup f299 = some ⟨oc304, od304, .func (PySem.W.fnOf "__init__" "Transaction.__init__" (defArgs s_TransactionU_initU) (defBody s_TransactionU_initU) (defScope s_TransactionU_initU) .none kV304 dc304 pm304 an304 cd304 ct304), sl304⟩)
    (c304 : PySem.W.codeIn K cd304 "Transaction.__init__" = true)
    (k304 : PySem.W.keepIn K (.ref f299) = true)
    (a306 : PySem.W.nsIn K mainGlobals "Database" = some (some (.ref C305)))
    (q307 : PySem.W.plainGet K C305 Str.empty = true)
    (q308 : PySem.W.hasDictIn K C305 = true)
    (q309 : PySem.W.plainOver K C305 = true)
    (q310 : PySem.W.findIn K (.ref C305) "__setattr__" = some (some (.builtin "object.__setattr__")))
    (z311 : PySem.W.findIn K (.ref C305) "rows" = some none)
    (z312 : PySem.W.findIn K (.ref C305) "stack" = some none)
    (z313 : PySem.W.findIn K (.ref C305) "entered" = some none)
    (z314 : PySem.W.findIn K (.ref C305) "floor" = some none)
    (z315 : PySem.W.findIn K (.ref C305) "opened" = some none)
    (q317 : PySem.W.makesIn K C305 = true)
    (q318 : PySem.W.findIn K (.ref C305) "__init__" = some (some (.ref f316)))
    (q319 : PySem.W.isFn K (.ref f316) = true)
    (q320 : PySem.W.keepIn K (.ref C305) = true)
    (l321 : K.lookup f316 = some ⟨oc321, od321, .func (PySem.W.fnOf "__init__" "Database.__init__" (defArgs s_DatabaseU_initU) (defBody s_DatabaseU_initU) (defScope s_DatabaseU_initU) .none kV321 dc321 pm321 an321 cd321 ct321), sl321⟩)
    (c321 : PySem.W.codeIn K cd321 "Database.__init__" = true)
    (k321 : PySem.W.keepIn K (.ref f316) = true)
    (q323 : PySem.W.findIn K (.ref C305) "begin" = some (some (.ref f322)))
    (q324 : PySem.W.isFn K (.ref f322) = true)
    (l325 : K.lookup f322 = some ⟨oc325, od325, .func (PySem.W.fnOf "begin" "Database.begin" (defArgs s_Database_begin) (defBody s_Database_begin) (defScope s_Database_begin) .none kV325 dc325 pm325 an325 cd325 ct325), sl325⟩)
    (c325 : PySem.W.codeIn K cd325 "Database.begin" = true)
    (k325 : PySem.W.keepIn K (.ref f322) = true)
    (q327 : PySem.W.findIn K (.ref C305) "enter_alone" = some (some (.ref f326)))
    (q328 : PySem.W.isFn K (.ref f326) = true)
    (l329 : K.lookup f326 = some ⟨oc329, od329, .func (PySem.W.fnOf "enter_alone" "Database.enter_alone" (defArgs s_Database_enter_alone) (defBody s_Database_enter_alone) (defScope s_Database_enter_alone) .none kV329 dc329 pm329 an329 cd329 ct329), sl329⟩)
    (c329 : PySem.W.codeIn K cd329 "Database.enter_alone" = true)
    (k329 : PySem.W.keepIn K (.ref f326) = true)
    (q331 : PySem.W.findIn K (.ref C305) "enter_inside" = some (some (.ref f330)))
    (q332 : PySem.W.isFn K (.ref f330) = true)
    (l333 : K.lookup f330 = some ⟨oc333, od333, .func (PySem.W.fnOf "enter_inside" "Database.enter_inside" (defArgs s_Database_enter_inside) (defBody s_Database_enter_inside) (defScope s_Database_enter_inside) .none kV333 dc333 pm333 an333 cd333 ct333), sl333⟩)
    (c333 : PySem.W.codeIn K cd333 "Database.enter_inside" = true)
    (k333 : PySem.W.keepIn K (.ref f330) = true)
    (q335 : PySem.W.findIn K (.ref C305) "enter" = some (some (.ref f334)))
    (q336 : PySem.W.isFn K (.ref f334) = true)
    (l337 : K.lookup f334 = some ⟨oc337, od337, .func (PySem.W.fnOf "enter" "Database.enter" (defArgs s_Database_enter) (defBody s_Database_enter) (defScope s_Database_enter) .none kV337 dc337 pm337 an337 cd337 ct337), sl337⟩)
    (c337 : PySem.W.codeIn K cd337 "Database.enter" = true)
    (k337 : PySem.W.keepIn K (.ref f334) = true)
    (q339 : PySem.W.findIn K (.ref C305) "doom" = some (some (.ref f338)))
    (q340 : PySem.W.isFn K (.ref f338) = true)
    (l341 : K.lookup f338 = some ⟨oc341, od341, .func (PySem.W.fnOf "doom" "Database.doom" (defArgs s_Database_doom) (defBody s_Database_doom) (defScope s_Database_doom) (.ref T342) kV341 dc341 pm341 an341 cd341 ct341), sl341⟩)
    (c341 : PySem.W.codeIn K cd341 "Database.doom" = true)
    (k341 : PySem.W.keepIn K (.ref f338) = true)
    (lT348 : K.lookup T342 = some ⟨oc343, od344, .seq #[.str "doom" t347] on345, os346⟩)
    (q350 : PySem.W.findIn K (.ref C305) "end_level" = some (some (.ref f349)))
    (q351 : PySem.W.isFn K (.ref f349) = true)
    (l352 : K.lookup f349 = some ⟨oc352, od352, .func (PySem.W.fnOf "end_level" "Database.end_level" (defArgs s_Database_end_level) (defBody s_Database_end_level) (defScope s_Database_end_level) .none kV352 dc352 pm352 an352 cd352 ct352), sl352⟩)
    (c352 : PySem.W.codeIn K cd352 "Database.end_level" = true)
    (k352 : PySem.W.keepIn K (.ref f349) = true)
    (q354 : PySem.W.findIn K (.ref C305) "end_transaction" = some (some (.ref f353)))
    (q355 : PySem.W.isFn K (.ref f353) = true)
    (l356 : K.lookup f353 = some ⟨oc356, od356, .func (PySem.W.fnOf "end_transaction" "Database.end_transaction" (defArgs s_Database_end_transaction) (defBody s_Database_end_transaction) (defScope s_Database_end_transaction) .none kV356 dc356 pm356 an356 cd356 ct356), sl356⟩)
    (c356 : PySem.W.codeIn K cd356 "Database.end_transaction" = true)
    (k356 : PySem.W.keepIn K (.ref f353) = true)
    (q358 : PySem.W.findIn K (.ref C305) "leave" = some (some (.ref f357)))
    (q359 : PySem.W.isFn K (.ref f357) = true)
    (l360 : K.lookup f357 = some ⟨oc360, od360, .func (PySem.W.fnOf "leave" "Database.leave" (defArgs s_Database_leave) (defBody s_Database_leave) (defScope s_Database_leave) (.ref T361) (.ref D368) dc360 pm360 an360 cd360 ct360), sl360⟩)
    (c360 : PySem.W.codeIn K cd360 "Database.leave" = true)
    (k360 : PySem.W.keepIn K (.ref f357) = true)
    (lT367 : K.lookup T361 = some ⟨oc362, od363, .seq #[.none] on364, os365⟩)
    (z370 : PySem.W.nsIn K D368 "commits" = some (some (.bool true)))
    (q372 : PySem.W.findIn K (.ref C305) "held_by" = some (some (.ref f371)))
    (q373 : PySem.W.isFn K (.ref f371) = true)
    (l374 : K.lookup f371 = some ⟨oc374, od374, .func (PySem.W.fnOf "held_by" "Database.held_by" (defArgs s_Database_held_by) (defBody s_Database_held_by) (defScope s_Database_held_by) .none kV374 dc374 pm374 an374 cd374 ct374), sl374⟩)
    (c374 : PySem.W.codeIn K cd374 "Database.held_by" = true)
    (k374 : PySem.W.keepIn K (.ref f371) = true)
    (q376 : PySem.W.findIn K (.ref C305) "outer_records" = some (some (.ref f375)))
    (q377 : PySem.W.isFn K (.ref f375) = true)
    (l378 : K.lookup f375 = some ⟨oc378, od378, .func (PySem.W.fnOf "outer_records" "Database.outer_records" (defArgs s_Database_outer_records) (defBody s_Database_outer_records) (defScope s_Database_outer_records) .none kV378 dc378 pm378 an378 cd378 ct378), sl378⟩)
    (c378 : PySem.W.codeIn K cd378 "Database.outer_records" = true)
    (k378 : PySem.W.keepIn K (.ref f375) = true)
    (q380 : PySem.W.findIn K (.ref C305) "would_wait" = some (some (.ref f379)))
    (q381 : PySem.W.isFn K (.ref f379) = true)
    (l382 : K.lookup f379 = some ⟨oc382, od382, .func (PySem.W.fnOf "would_wait" "Database.would_wait" (defArgs s_Database_would_wait) (defBody s_Database_would_wait) (defScope s_Database_would_wait) .none kV382 dc382 pm382 an382 cd382 ct382), sl382⟩)
    (c382 : PySem.W.codeIn K cd382 "Database.would_wait" = true)
    (k382 : PySem.W.keepIn K (.ref f379) = true)
    (q384 : PySem.W.findIn K (.ref C305) "write" = some (some (.ref f383)))
    (q385 : PySem.W.isFn K (.ref f383) = true)
    (l386 : K.lookup f383 = some ⟨oc386, od386, .func (PySem.W.fnOf "write" "Database.write" (defArgs s_Database_write) (defBody s_Database_write) (defScope s_Database_write) .none kV386 dc386 pm386 an386 cd386 ct386), sl386⟩)
    (c386 : PySem.W.codeIn K cd386 "Database.write" = true)
    (k386 : PySem.W.keepIn K (.ref f383) = true)
    (q388 : PySem.W.findIn K (.ref C305) "__setitem__" = some (some (.ref f387)))
    (q389 : PySem.W.isFn K (.ref f387) = true)
    (l390 : K.lookup f387 = some ⟨oc390, od390, .func (PySem.W.fnOf "__setitem__" "Database.__setitem__" (defArgs s_DatabaseU_setitemU) (defBody s_DatabaseU_setitemU) (defScope s_DatabaseU_setitemU) .none kV390 dc390 pm390 an390 cd390 ct390), sl390⟩)
    (c390 : PySem.W.codeIn K cd390 "Database.__setitem__" = true)
    (k390 : PySem.W.keepIn K (.ref f387) = true)
    (q392 : PySem.W.findIn K (.ref C305) "fates" = some (some (.ref f391)))
    (q393 : PySem.W.isFn K (.ref f391) = true)
    (l394 : K.lookup f391 = some ⟨oc394, od394, .func (PySem.W.fnOf "fates" "Database.fates" (defArgs s_Database_fates) (defBody s_Database_fates) (defScope s_Database_fates) .none kV394 dc394 pm394 an394 cd394 ct394), sl394⟩)
    (c394 : PySem.W.codeIn K cd394 "Database.fates" = true)
    (k394 : PySem.W.keepIn K (.ref f391) = true)
    (q398 : PySem.W.findIn K (.ref C305) "is_open" = some (some (.ref p396)))
    (q399 : PySem.W.specialIn K (.ref p396) "__get__" = some (some (.builtin "property.__get__")))
    (q400 : PySem.W.takesIn K (.ref p396) = some true)
    (q401 : PySem.W.recIn K p396 "property" = some (.ref f395 :: rs397))
    (l402 : K.lookup f395 = some ⟨oc402, od402, .func (PySem.W.fnOf "is_open" "Database.is_open" (defArgs s_Database_is_open) (defBody s_Database_is_open) (defScope s_Database_is_open) .none kV402 dc402 pm402 an402 cd402 ct402), sl402⟩)
    (c402 : PySem.W.codeIn K cd402 "Database.is_open" = true)
    (k402 : PySem.W.keepIn K (.ref f395) = true)
    (q406 : PySem.W.findIn K (.ref C305) "levels" = some (some (.ref p404)))
    (q407 : PySem.W.specialIn K (.ref p404) "__get__" = some (some (.builtin "property.__get__")))
    (q408 : PySem.W.takesIn K (.ref p404) = some true)
    (q409 : PySem.W.recIn K p404 "property" = some (.ref f403 :: rs405))
    (l410 : K.lookup f403 = some ⟨oc410, od410, .func (PySem.W.fnOf "levels" "Database.levels" (defArgs s_Database_levels) (defBody s_Database_levels) (defScope s_Database_levels) .none kV410 dc410 pm410 an410 cd410 ct410), sl410⟩)
    (c410 : PySem.W.codeIn K cd410 "Database.levels" = true)
    (k410 : PySem.W.keepIn K (.ref f403) = true)
    (z411 : PySem.W.noSeq K C305 = true)
    (a413 : PySem.W.nsIn K mainGlobals "_law_pool" = some (some (.ref f412)))
    (l414 : K.lookup f412 = some ⟨oc414, od414, .func (PySem.W.fnOf "_law_pool" "_law_pool" (defArgs s_law_pool) (defBody s_law_pool) (defScope s_law_pool) .none kV414 dc414 pm414 an414 cd414 ct414), sl414⟩)
    (c414 : PySem.W.codeIn K cd414 "_law_pool" = true)
    (k414 : PySem.W.keepIn K (.ref f412) = true)
    (a416 : PySem.W.nsIn K mainGlobals "_law_draw" = some (some (.ref f415)))
    (l417 : K.lookup f415 = some ⟨oc417, od417, .func (PySem.W.fnOf "_law_draw" "_law_draw" (defArgs s_law_draw) (defBody s_law_draw) (defScope s_law_draw) .none kV417 dc417 pm417 an417 cd417 ct417), sl417⟩)
    (c417 : PySem.W.codeIn K cd417 "_law_draw" = true)
    (k417 : PySem.W.keepIn K (.ref f415) = true)
    (a419 : PySem.W.nsIn K mainGlobals "_law_word" = some (some (.ref f418)))
    (l420 : K.lookup f418 = some ⟨oc420, od420, .func (PySem.W.fnOf "_law_word" "_law_word" (defArgs s_law_word) (defBody s_law_word) (defScope s_law_word) .none kV420 dc420 pm420 an420 cd420 ct420), sl420⟩)
    (c420 : PySem.W.codeIn K cd420 "_law_word" = true)
    (k420 : PySem.W.keepIn K (.ref f418) = true)
    (a422 : PySem.W.nsIn K mainGlobals "_law_fates" = some (some (.ref f421)))
    (l423 : K.lookup f421 = some ⟨oc423, od423, .func (PySem.W.fnOf "_law_fates" "_law_fates" (defArgs s_law_fates) (defBody s_law_fates) (defScope s_law_fates) .none kV423 dc423 pm423 an423 cd423 ct423), sl423⟩)
    (c423 : PySem.W.codeIn K cd423 "_law_fates" = true)
    (k423 : PySem.W.keepIn K (.ref f421) = true)
    (a425 : PySem.W.nsIn K mainGlobals "_law_leave" = some (some (.ref f424)))
    (l426 : K.lookup f424 = some ⟨oc426, od426, .func (PySem.W.fnOf "_law_leave" "_law_leave" (defArgs s_law_leave) (defBody s_law_leave) (defScope s_law_leave) .none kV426 dc426 pm426 an426 cd426 ct426), sl426⟩)
    (c426 : PySem.W.codeIn K cd426 "_law_leave" = true)
    (k426 : PySem.W.keepIn K (.ref f424) = true)
    (a428 : PySem.W.nsIn K mainGlobals "_law_write" = some (some (.ref f427)))
    (l429 : K.lookup f427 = some ⟨oc429, od429, .func (PySem.W.fnOf "_law_write" "_law_write" (defArgs s_law_write) (defBody s_law_write) (defScope s_law_write) .none kV429 dc429 pm429 an429 cd429 ct429), sl429⟩)
    (c429 : PySem.W.codeIn K cd429 "_law_write" = true)
    (k429 : PySem.W.keepIn K (.ref f427) = true)
    (a431 : PySem.W.nsIn K mainGlobals "_law_fill" = some (some (.ref f430)))
    (l432 : K.lookup f430 = some ⟨oc432, od432, .func (PySem.W.fnOf "_law_fill" "_law_fill" (defArgs s_law_fill) (defBody s_law_fill) (defScope s_law_fill) .none kV432 dc432 pm432 an432 cd432 ct432), sl432⟩)
    (c432 : PySem.W.codeIn K cd432 "_law_fill" = true)
    (k432 : PySem.W.keepIn K (.ref f430) = true)
    (a434 : PySem.W.nsIn K mainGlobals "_law_around" = some (some (.ref f433)))
    (l435 : K.lookup f433 = some ⟨oc435, od435, .func (PySem.W.fnOf "_law_around" "_law_around" (defArgs s_law_around) (defBody s_law_around) (defScope s_law_around) .none kV435 dc435 pm435 an435 cd435 ct435), sl435⟩)
    (c435 : PySem.W.codeIn K cd435 "_law_around" = true)
    (k435 : PySem.W.keepIn K (.ref f433) = true)
    (l436 : K.lookup f0 = some ⟨oc436, od436, .func (PySem.W.fnOf "law" "law" (defArgs s_law) (defBody s_law) (defScope s_law) .none kV436 dc436 pm436 an436 cd436 ct436), sl436⟩)
    (c436 : PySem.W.codeIn K cd436 "law" = true)
    (k436 : PySem.W.keepIn K (.ref f0) = true)
    (z437 : PySem.W.nsIn K mainGlobals "isinstance" = some none)
    (z438 : PySem.W.nsIn K mainGlobals "str" = some none)
    (z439 : PySem.W.nsIn K mainGlobals "len" = some none)
    (z440 : PySem.W.nsIn K mainGlobals "super" = some none)
    (z441 : PySem.W.nsIn K mainGlobals "sorted" = some none)
    (z442 : PySem.W.nsIn K mainGlobals "abs" = some none)
    (z443 : PySem.W.nsIn K mainGlobals "int" = some none)
    (z444 : PySem.W.nsIn K mainGlobals "range" = some none)
    (z445 : PySem.W.nsIn K mainGlobals "list" = some none)
    (z446 : PySem.W.nsIn K mainGlobals "max" = some none)
    (z447 : PySem.W.nsIn K mainGlobals "min" = some none)
    : ∃ fd : FuncData, (∀ (s : Shared) (v : Value), BindsTo s fd ⟨[v], []⟩ [("_law_script", v)]) ∧ ∀ base : Heap, K.In base → base.Ns mainGlobals mg → FnOk P w K mg base CX0 9 fa fd ["_law_script"] (spLaw K) := by
  have e := hfa0.symm.trans (PySem.W.mg_of X G a0)
  cases e
  exact all_mk X G hfa0 a2 r3 s4 z5 z7 z9 z11 z13 z15 z17 z19 z21 l23 z37 r38 l40 c40 k40 a42 l43 c43 k43 z44 a46 e49 e50 e51 e52 e53 e54 e55 e56 e57 e58 e59 e60 e61 e62 e63 e64 e65 e66 e67 e68 e69 e70 a72 e75 e76 e77 e78 e79 e80 e81 e82 e83 e84 e85 e86 e87 e88 e89 e90 e91 e92 e93 e94 e95 e96 a98 e101 e102 e103 e104 e105 e106 e107 e108 e109 e110 e111 e112 e113 e114 e115 e116 e117 e118 e119 e120 e121 e122 a124 e127 e128 e129 e130 e131 e132 e133 e134 e135 e136 e137 e138 e139 e140 e141 e142 e143 e144 e145 e146 e147 a149 e152 e153 e154 e155 e156 e157 e158 e159 e160 e161 e162 e163 e164 e165 e166 e167 e168 e169 e170 e171 a173 e176 e177 e178 e179 e180 e181 e182 e183 e184 e185 e186 e187 e188 e189 e190 e191 e192 e193 e194 e195 e196 e197 a199 e202 e203 e204 e205 e206 e207 e208 e209 e210 e211 e212 e213 e214 e215 e216 e217 e218 e219 e220 e221 e222 a224 e227 e228 e229 e230 e231 e232 e233 e234 e235 e236 e237 e238 e239 e240 e241 e242 e243 e244 e245 e246 e247 a249 e252 e253 e254 e255 e256 e257 e258 e259 e260 e261 e262 e263 e264 e265 e266 e267 e268 e269 e270 e271 e272 z273 a275 q276 q277 q278 q279 z280 z281 z282 z283 z284 q286 q287 q288 q289 l290 c290 k290 a292 q293 q294 q295 q296 z297 z298 q300 q301 q302 q303 l304 c304 k304 a306 q307 q308 q309 q310 z311 z312 z313 z314 z315 q317 q318 q319 q320 l321 c321 k321 q323 q324 l325 c325 k325 q327 q328 l329 c329 k329 q331 q332 l333 c333 k333 q335 q336 l337 c337 k337 q339 q340 l341 c341 k341 lT348 q350 q351 l352 c352 k352 q354 q355 l356 c356 k356 q358 q359 l360 c360 k360 lT367 z370 q372 q373 l374 c374 k374 q376 q377 l378 c378 k378 q380 q381 l382 c382 k382 q384 q385 l386 c386 k386 q388 q389 l390 c390 k390 q392 q393 l394 c394 k394 q398 q399 q400 q401 l402 c402 k402 q406 q407 q408 q409 l410 c410 k410 z411 a413 l414 c414 k414 a416 l417 c417 k417 a419 l420 c420 k420 a422 l423 c423 k423 a425 l426 c426 k426 a428 l429 c429 k429 a431 l432 c432 k432 a434 l435 c435 k435 l436 c436 k436 z437 z438 z439 z440 z441 z442 z443 z444 z445 z446 z447
end Ic
open PySem PySem.W PyProof.Rows
set_option maxRecDepth 100000 in
set_option maxHeartbeats 0 in
theorem PySem.Challenge.cw_innercommits_k10_whole_levels_share_a_fa_holds : PySem.Challenge.rw_innercommits_k10_whole_levels_share_a_fa.Holds := by
  w_on; o_law; k_head; (case hw => w_witness2)
  k_fill
  refine L2.walk_ofB (l := PySem.Challenge.rw_innercommits_k10_whole_levels_share_a_fa) (n := 63) (k := 9) (x := "_law_script") (CX := fun _ => L2.CX0) (sp := fun w => Ic.spLaw _) rfl (by decide) rfl ⟨rfl, by decide, by decide⟩ (fun w h Y => PySem.W.kIn_of Y) ?F (fun _ _ a ns hl _ _ hS => ⟨a, ns, rfl, hS, hl, fun _ => rfl⟩) (fun _ _ _ _ _ h => h)
  case F =>
    intro w mg fa h KX G hmg
    refine' Ic.all_mk' KX G hmg ?a0 ?a2 ?r3 ?s4 ?z5 ?z7 ?z9 ?z11 ?z13 ?z15 ?z17 ?z19 ?z21 ?l23 ?z37 ?r38 ?l40 ?c40 ?k40 ?a42 ?l43 ?c43 ?k43 ?z44 ?a46 ?e49 ?e50 ?e51 ?e52 ?e53 ?e54 ?e55 ?e56 ?e57 ?e58 ?e59 ?e60 ?e61 ?e62 ?e63 ?e64 ?e65 ?e66 ?e67 ?e68 ?e69 ?e70 ?a72 ?e75 ?e76 ?e77 ?e78 ?e79 ?e80 ?e81 ?e82 ?e83 ?e84 ?e85 ?e86 ?e87 ?e88 ?e89 ?e90 ?e91 ?e92 ?e93 ?e94 ?e95 ?e96 ?a98 ?e101 ?e102 ?e103 ?e104 ?e105 ?e106 ?e107 ?e108 ?e109 ?e110 ?e111 ?e112 ?e113 ?e114 ?e115 ?e116 ?e117 ?e118 ?e119 ?e120 ?e121 ?e122 ?a124 ?e127 ?e128 ?e129 ?e130 ?e131 ?e132 ?e133 ?e134 ?e135 ?e136 ?e137 ?e138 ?e139 ?e140 ?e141 ?e142 ?e143 ?e144 ?e145 ?e146 ?e147 ?a149 ?e152 ?e153 ?e154 ?e155 ?e156 ?e157 ?e158 ?e159 ?e160 ?e161 ?e162 ?e163 ?e164 ?e165 ?e166 ?e167 ?e168 ?e169 ?e170 ?e171 ?a173 ?e176 ?e177 ?e178 ?e179 ?e180 ?e181 ?e182 ?e183 ?e184 ?e185 ?e186 ?e187 ?e188 ?e189 ?e190 ?e191 ?e192 ?e193 ?e194 ?e195 ?e196 ?e197 ?a199 ?e202 ?e203 ?e204 ?e205 ?e206 ?e207 ?e208 ?e209 ?e210 ?e211 ?e212 ?e213 ?e214 ?e215 ?e216 ?e217 ?e218 ?e219 ?e220 ?e221 ?e222 ?a224 ?e227 ?e228 ?e229 ?e230 ?e231 ?e232 ?e233 ?e234 ?e235 ?e236 ?e237 ?e238 ?e239 ?e240 ?e241 ?e242 ?e243 ?e244 ?e245 ?e246 ?e247 ?a249 ?e252 ?e253 ?e254 ?e255 ?e256 ?e257 ?e258 ?e259 ?e260 ?e261 ?e262 ?e263 ?e264 ?e265 ?e266 ?e267 ?e268 ?e269 ?e270 ?e271 ?e272 ?z273 ?a275 ?q276 ?q277 ?q278 ?q279 ?z280 ?z281 ?z282 ?z283 ?z284 ?q286 ?q287 ?q288 ?q289 ?l290 ?c290 ?k290 ?a292 ?q293 ?q294 ?q295 ?q296 ?z297 ?z298 ?q300 ?q301 ?q302 ?q303 ?l304 ?c304 ?k304 ?a306 ?q307 ?q308 ?q309 ?q310 ?z311 ?z312 ?z313 ?z314 ?z315 ?q317 ?q318 ?q319 ?q320 ?l321 ?c321 ?k321 ?q323 ?q324 ?l325 ?c325 ?k325 ?q327 ?q328 ?l329 ?c329 ?k329 ?q331 ?q332 ?l333 ?c333 ?k333 ?q335 ?q336 ?l337 ?c337 ?k337 ?q339 ?q340 ?l341 ?c341 ?k341 ?lT348 ?q350 ?q351 ?l352 ?c352 ?k352 ?q354 ?q355 ?l356 ?c356 ?k356 ?q358 ?q359 ?l360 ?c360 ?k360 ?lT367 ?z370 ?q372 ?q373 ?l374 ?c374 ?k374 ?q376 ?q377 ?l378 ?c378 ?k378 ?q380 ?q381 ?l382 ?c382 ?k382 ?q384 ?q385 ?l386 ?c386 ?k386 ?q388 ?q389 ?l390 ?c390 ?k390 ?q392 ?q393 ?l394 ?c394 ?k394 ?q398 ?q399 ?q400 ?q401 ?l402 ?c402 ?k402 ?q406 ?q407 ?q408 ?q409 ?l410 ?c410 ?k410 ?z411 ?a413 ?l414 ?c414 ?k414 ?a416 ?l417 ?c417 ?k417 ?a419 ?l420 ?c420 ?k420 ?a422 ?l423 ?c423 ?k423 ?a425 ?l426 ?c426 ?k426 ?a428 ?l429 ?c429 ?k429 ?a431 ?l432 ?c432 ?k432 ?a434 ?l435 ?c435 ?k435 ?l436 ?c436 ?k436 ?z437 ?z438 ?z439 ?z440 ?z441 ?z442 ?z443 ?z444 ?z445 ?z446 ?z447
    (case a0 => k_is)
    (case a2 => k_is)
    (case r3 => k_is)
    (case s4 => k_is)
    (case z5 => k_is)
    (case z7 => k_is)
    (case z9 => k_is)
    (case z11 => k_is)
    (case z13 => k_is)
    (case z15 => k_is)
    (case z17 => k_is)
    (case z19 => k_is)
    (case z21 => k_is)
    (case l23 => k_is)
    (case z37 => k_is)
    (case r38 => k_is)
    (case l40 => k_is)
    (case c40 => k_is)
    (case k40 => k_is)
    (case a42 => k_is)
    (case l43 => k_is)
    (case c43 => k_is)
    (case k43 => k_is)
    (case z44 => k_is)
    (case a46 => k_is)
    (case e49 => k_is)
    (case e50 => kernel_rfl)
    (case e51 => k_is)
    (case e52 => k_is)
    (case e53 => k_is)
    (case e54 => k_is)
    (case e55 => k_is)
    (case e56 => k_is)
    (case e57 => k_is)
    (case e58 => k_is)
    (case e59 => k_is)
    (case e60 => k_is)
    (case e61 => kernel_rfl)
    (case e62 => k_is)
    (case e63 => kernel_rfl)
    (case e64 => k_is)
    (case e65 => k_is)
    (case e66 => k_is)
    (case e67 => exact rfl)
    (case e68 => k_is)
    (case e69 => k_is)
    (case e70 => k_is)
    (case a72 => k_is)
    (case e75 => k_is)
    (case e76 => kernel_rfl)
    (case e77 => k_is)
    (case e78 => k_is)
    (case e79 => k_is)
    (case e80 => k_is)
    (case e81 => k_is)
    (case e82 => k_is)
    (case e83 => k_is)
    (case e84 => k_is)
    (case e85 => k_is)
    (case e86 => k_is)
    (case e87 => kernel_rfl)
    (case e88 => k_is)
    (case e89 => kernel_rfl)
    (case e90 => k_is)
    (case e91 => k_is)
    (case e92 => k_is)
    (case e93 => exact rfl)
    (case e94 => k_is)
    (case e95 => k_is)
    (case e96 => k_is)
    (case a98 => k_is)
    (case e101 => k_is)
    (case e102 => kernel_rfl)
    (case e103 => k_is)
    (case e104 => k_is)
    (case e105 => k_is)
    (case e106 => k_is)
    (case e107 => k_is)
    (case e108 => k_is)
    (case e109 => k_is)
    (case e110 => k_is)
    (case e111 => k_is)
    (case e112 => k_is)
    (case e113 => kernel_rfl)
    (case e114 => k_is)
    (case e115 => kernel_rfl)
    (case e116 => k_is)
    (case e117 => k_is)
    (case e118 => k_is)
    (case e119 => exact rfl)
    (case e120 => k_is)
    (case e121 => k_is)
    (case e122 => k_is)
    (case a124 => k_is)
    (case e127 => k_is)
    (case e128 => kernel_rfl)
    (case e129 => k_is)
    (case e130 => k_is)
    (case e131 => k_is)
    (case e132 => k_is)
    (case e133 => k_is)
    (case e134 => k_is)
    (case e135 => k_is)
    (case e136 => k_is)
    (case e137 => k_is)
    (case e138 => k_is)
    (case e139 => kernel_rfl)
    (case e140 => k_is)
    (case e141 => kernel_rfl)
    (case e142 => k_is)
    (case e143 => k_is)
    (case e144 => k_is)
    (case e145 => exact rfl)
    (case e146 => k_is)
    (case e147 => k_is)
    (case a149 => k_is)
    (case e152 => k_is)
    (case e153 => kernel_rfl)
    (case e154 => k_is)
    (case e155 => k_is)
    (case e156 => k_is)
    (case e157 => k_is)
    (case e158 => k_is)
    (case e159 => k_is)
    (case e160 => k_is)
    (case e161 => k_is)
    (case e162 => k_is)
    (case e163 => k_is)
    (case e164 => kernel_rfl)
    (case e165 => k_is)
    (case e166 => kernel_rfl)
    (case e167 => k_is)
    (case e168 => k_is)
    (case e169 => k_is)
    (case e170 => exact rfl)
    (case e171 => k_is)
    (case a173 => k_is)
    (case e176 => k_is)
    (case e177 => kernel_rfl)
    (case e178 => k_is)
    (case e179 => k_is)
    (case e180 => k_is)
    (case e181 => k_is)
    (case e182 => k_is)
    (case e183 => k_is)
    (case e184 => k_is)
    (case e185 => k_is)
    (case e186 => k_is)
    (case e187 => k_is)
    (case e188 => kernel_rfl)
    (case e189 => k_is)
    (case e190 => kernel_rfl)
    (case e191 => k_is)
    (case e192 => k_is)
    (case e193 => k_is)
    (case e194 => exact rfl)
    (case e195 => k_is)
    (case e196 => k_is)
    (case e197 => k_is)
    (case a199 => k_is)
    (case e202 => k_is)
    (case e203 => kernel_rfl)
    (case e204 => k_is)
    (case e205 => k_is)
    (case e206 => k_is)
    (case e207 => k_is)
    (case e208 => k_is)
    (case e209 => k_is)
    (case e210 => k_is)
    (case e211 => k_is)
    (case e212 => k_is)
    (case e213 => k_is)
    (case e214 => kernel_rfl)
    (case e215 => k_is)
    (case e216 => kernel_rfl)
    (case e217 => k_is)
    (case e218 => k_is)
    (case e219 => k_is)
    (case e220 => exact rfl)
    (case e221 => k_is)
    (case e222 => k_is)
    (case a224 => k_is)
    (case e227 => k_is)
    (case e228 => kernel_rfl)
    (case e229 => k_is)
    (case e230 => k_is)
    (case e231 => k_is)
    (case e232 => k_is)
    (case e233 => k_is)
    (case e234 => k_is)
    (case e235 => k_is)
    (case e236 => k_is)
    (case e237 => k_is)
    (case e238 => k_is)
    (case e239 => kernel_rfl)
    (case e240 => k_is)
    (case e241 => kernel_rfl)
    (case e242 => k_is)
    (case e243 => k_is)
    (case e244 => k_is)
    (case e245 => exact rfl)
    (case e246 => k_is)
    (case e247 => k_is)
    (case a249 => k_is)
    (case e252 => k_is)
    (case e253 => kernel_rfl)
    (case e254 => k_is)
    (case e255 => k_is)
    (case e256 => k_is)
    (case e257 => k_is)
    (case e258 => k_is)
    (case e259 => k_is)
    (case e260 => k_is)
    (case e261 => k_is)
    (case e262 => k_is)
    (case e263 => k_is)
    (case e264 => kernel_rfl)
    (case e265 => k_is)
    (case e266 => kernel_rfl)
    (case e267 => k_is)
    (case e268 => k_is)
    (case e269 => k_is)
    (case e270 => exact rfl)
    (case e271 => k_is)
    (case e272 => k_is)
    (case z273 => kernel_rfl)
    (case a275 => k_is)
    (case q276 => k_is)
    (case q277 => k_is)
    (case q278 => k_is)
    (case q279 => k_is)
    (case z280 => k_is)
    (case z281 => k_is)
    (case z282 => k_is)
    (case z283 => k_is)
    (case z284 => k_is)
    (case q286 => k_is)
    (case q287 => k_is)
    (case q288 => k_is)
    (case q289 => k_is)
    (case l290 => k_is)
    (case c290 => k_is)
    (case k290 => k_is)
    (case a292 => k_is)
    (case q293 => k_is)
    (case q294 => k_is)
    (case q295 => k_is)
    (case q296 => k_is)
    (case z297 => k_is)
    (case z298 => k_is)
    (case q300 => k_is)
    (case q301 => k_is)
    (case q302 => k_is)
    (case q303 => k_is)
    (case l304 => k_is)
    (case c304 => k_is)
    (case k304 => k_is)
    (case a306 => k_is)
    (case q307 => k_is)
    (case q308 => k_is)
    (case q309 => k_is)
    (case q310 => k_is)
    (case z311 => k_is)
    (case z312 => k_is)
    (case z313 => k_is)
    (case z314 => k_is)
    (case z315 => k_is)
    (case q317 => k_is)
    (case q318 => k_is)
    (case q319 => k_is)
    (case q320 => k_is)
    (case l321 => k_is)
    (case c321 => k_is)
    (case k321 => k_is)
    (case q323 => k_is)
    (case q324 => k_is)
    (case l325 => k_is)
    (case c325 => k_is)
    (case k325 => k_is)
    (case q327 => k_is)
    (case q328 => k_is)
    (case l329 => k_is)
    (case c329 => k_is)
    (case k329 => k_is)
    (case q331 => k_is)
    (case q332 => k_is)
    (case l333 => k_is)
    (case c333 => k_is)
    (case k333 => k_is)
    (case q335 => k_is)
    (case q336 => k_is)
    (case l337 => k_is)
    (case c337 => k_is)
    (case k337 => k_is)
    (case q339 => k_is)
    (case q340 => k_is)
    (case l341 => k_is)
    (case c341 => k_is)
    (case k341 => k_is)
    (case lT348 => k_is)
    (case q350 => k_is)
    (case q351 => k_is)
    (case l352 => k_is)
    (case c352 => k_is)
    (case k352 => k_is)
    (case q354 => k_is)
    (case q355 => k_is)
    (case l356 => k_is)
    (case c356 => k_is)
    (case k356 => k_is)
    (case q358 => k_is)
    (case q359 => k_is)
    (case l360 => k_is)
    (case c360 => k_is)
    (case k360 => k_is)
    (case lT367 => k_is)
    (case z370 => k_is)
    (case q372 => k_is)
    (case q373 => k_is)
    (case l374 => k_is)
    (case c374 => k_is)
    (case k374 => k_is)
    (case q376 => k_is)
    (case q377 => k_is)
    (case l378 => k_is)
    (case c378 => k_is)
    (case k378 => k_is)
    (case q380 => k_is)
    (case q381 => k_is)
    (case l382 => k_is)
    (case c382 => k_is)
    (case k382 => k_is)
    (case q384 => k_is)
    (case q385 => k_is)
    (case l386 => k_is)
    (case c386 => k_is)
    (case k386 => k_is)
    (case q388 => k_is)
    (case q389 => k_is)
    (case l390 => k_is)
    (case c390 => k_is)
    (case k390 => k_is)
    (case q392 => k_is)
    (case q393 => k_is)
    (case l394 => k_is)
    (case c394 => k_is)
    (case k394 => k_is)
    (case q398 => k_is)
    (case q399 => k_is)
    (case q400 => k_is)
    (case q401 => k_is)
    (case l402 => k_is)
    (case c402 => k_is)
    (case k402 => k_is)
    (case q406 => k_is)
    (case q407 => k_is)
    (case q408 => k_is)
    (case q409 => k_is)
    (case l410 => k_is)
    (case c410 => k_is)
    (case k410 => k_is)
    (case z411 => k_is)
    (case a413 => k_is)
    (case l414 => k_is)
    (case c414 => k_is)
    (case k414 => k_is)
    (case a416 => k_is)
    (case l417 => k_is)
    (case c417 => k_is)
    (case k417 => k_is)
    (case a419 => k_is)
    (case l420 => k_is)
    (case c420 => k_is)
    (case k420 => k_is)
    (case a422 => k_is)
    (case l423 => k_is)
    (case c423 => k_is)
    (case k423 => k_is)
    (case a425 => k_is)
    (case l426 => k_is)
    (case c426 => k_is)
    (case k426 => k_is)
    (case a428 => k_is)
    (case l429 => k_is)
    (case c429 => k_is)
    (case k429 => k_is)
    (case a431 => k_is)
    (case l432 => k_is)
    (case c432 => k_is)
    (case k432 => k_is)
    (case a434 => k_is)
    (case l435 => k_is)
    (case c435 => k_is)
    (case k435 => k_is)
    (case l436 => k_is)
    (case c436 => k_is)
    (case k436 => k_is)
    (case z437 => k_is)
    (case z438 => k_is)
    (case z439 => k_is)
    (case z440 => k_is)
    (case z441 => k_is)
    (case z442 => k_is)
    (case z443 => k_is)
    (case z444 => k_is)
    (case z445 => k_is)
    (case z446 => k_is)
    (case z447 => k_is)
#print axioms PySem.Challenge.cw_innercommits_k10_whole_levels_share_a_fa_holds
