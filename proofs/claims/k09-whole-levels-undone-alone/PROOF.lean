import PyProof.Rows.All
import Wide.All
import OpenK.AllK
import Wide.FinOn
import HandS.ForMost
import HandS.EndBits
import HandS.Wide
import HandS.IsInst
import HandS.Style
import HandS.Walk
import HandS.ClsMeth
import HandS.Conv
import HandS.ForExc
import HandS.ExcInit
import HandS.CallSlots
import HandS.Defaults
import HandS.ExcField
import HandS.Property
import HandS.WordsExc
import HandS.TryMany
import KE.KExcSuper
import HandS.HotCalls
import HandS.Dict
import HandS.Set
import HandS.SetBool
import HandS.SetFor
import HandS.Strs
import HandS.More
import PyProof.Rows.SortShellAny
import PyProof.Rows.SetFrom
import PyProof.Rows.SetObj
import HandS.TryOnly
import HandS.GenList
import HandS.GenYield
import HandS.GenCall
import KE.KDictSum
import HandS.DictComp
import HandS.Codes
import PySem.Challenge.RW_innercommits_k09_whole_levels_undone_alo

set_option Elab.async false
set_option linter.all false
set_option maxRecDepth 100000
set_option maxHeartbeats 4000000
namespace Ic
open PySem L2
def top (i : Nat) : Stmt := PySem.Challenge.pw_innercommits_k09_whole_levels_undone_alo.main.body.getD i (.Pass ⟨0, 0, 0, 0⟩)
abbrev P : Program := PySem.Challenge.pw_innercommits_k09_whole_levels_undone_alo
/-! ### heaps -/
theorem sz_le {n m : Nat} (h : Nat.ble n m = true) : n ≤ m := Nat.le_of_ble_eq_true h
theorem sz_lt {n m : Nat} (h : Nat.blt n m = true) : n < m := Nat.le_of_ble_eq_true h
theorem upd_old {H : Hp} {p a : Addr} {o u : HO} (h : H a = some u) (hp : H p = none) : upd H p o a = some u := by
  rw [upd_ne (ne_of_none h hp)]; exact h
theorem upd_oth {H : Hp} {p a : Addr} {o u : HO} (hn : a ≠ p) (h : H a = some u) : upd H p o a = some u := by
  rw [upd_ne hn]; exact h
theorem cmul_l {i j : Int} (h : (decide (-(2 ^ 64) < i) && decide (i < 2 ^ 64)) = true) : CMul i j := by
  simp only [Bool.and_eq_true, decide_eq_true_eq] at h
  exact .inl h
theorem cmul_r {i j : Int} (h : (decide (-(2 ^ 64) < j) && decide (j < 2 ^ 64)) = true) : CMul i j := by
  simp only [Bool.and_eq_true, decide_eq_true_eq] at h
  exact .inr h
theorem cpow_lit {i j : Int} (h : (decide (0 ≤ j) && decide (j ≤ 1000000) && decide (i.natAbs < 2 ^ 64)) = true) : CPow i j := by
  simp only [Bool.and_eq_true, decide_eq_true_eq] at h
  exact ⟨h.1.1, h.1.2, h.2⟩
theorem cdiv_lit {i j : Int} (h : (decide (0 < j) && decide (j < 1073741824)) = true) : CDivW i j := by
  simp only [Bool.and_eq_true, decide_eq_true_eq] at h
  exact wide_div (b := 40) h.1 (by omega) (by decide) (by decide)
theorem none_upd {H : Hp} {p b : Addr} {o : HO} (h : upd H p o b = none) : b ≠ p ∧ H b = none := by
  by_cases e : b = p
  · rw [e, upd_same] at h; cases h
  · exact ⟨e, by rw [upd_ne e] at h; exact h⟩
/-- all that was tracked, but S, is as it was -/
def Kp (S : Addr → Prop) (H H' : Hp) : Prop := ∀ b u, H b = some u → ¬ S b → H' b = some u
theorem Kp.refl {S : Addr → Prop} {H : Hp} : Kp S H H := fun _ _ h _ => h
theorem Kp.trans {S : Addr → Prop} {H H1 H2 : Hp} (a : Kp S H H1) (b : Kp S H1 H2) : Kp S H H2 := fun c u h n => b c u (a c u h n) n
theorem Kp.new {S : Addr → Prop} {H H1 : Hp} {p : Addr} {o : HO} (a : Kp S H H1) (h : H1 p = none) : Kp S H (upd H1 p o) := fun c u e n => upd_old (a c u e n) h
theorem Kp.set {S : Addr → Prop} {H H1 : Hp} {p : Addr} {o : HO} (a : Kp S H H1) (h : S p) : Kp S H (upd H1 p o) := fun c u e n => upd_oth (fun z => n (z ▸ h)) (a c u e n)
theorem Kp.set1 {H H1 : Hp} {p : Addr} {o : HO} (a : Kp (fun b => b = p) H H1) : Kp (fun b => b = p) H (upd H1 p o) := a.set rfl
/-- p is none of H's -/
theorem Kp.fresh {S : Addr → Prop} {H H1 : Hp} {p : Addr} {o : HO} (a : Kp S H H1) (h : H p = none) : Kp S H (upd H1 p o) := fun c u e n => upd_oth (ne_of_none e h) (a c u e n)
theorem Kp.mono {S S' : Addr → Prop} {H H1 : Hp} (a : Kp S H H1) (h : ∀ b, S b → S' b) : Kp S' H H1 := fun c u e n => a c u e fun z => n (h c z)
theorem Kp.same {S : Addr → Prop} {H H1 H2 : Hp} (a : Same H H1) (b : Kp S H1 H2) (n : ∀ c, S c → H c = none) : Same H H2 := fun c u h => b c u (a c u h) fun z => by
  rw [n c z] at h; cases h
theorem Kp.of_same {S : Addr → Prop} {H H1 : Hp} (a : Same H H1) : Kp S H H1 := fun c u h _ => a c u h
theorem _root_.L2.Same.new {H H1 : Hp} {p : Addr} {o : HO} (a : Same H H1) (h : H1 p = none) : Same H (upd H1 p o) := fun c u e => upd_old (a c u e) h
theorem _root_.L2.Same.frsh {H H1 : Hp} {p : Addr} {o : HO} (a : Same H H1) (h : H p = none) : Same H (upd H1 p o) := fun c u e => upd_oth (ne_of_none e h) (a c u e)
theorem tyV_lst {K : PySem.W.Frag} {H : Hp} {p : Addr} {xs : List V} (h : SqL K H p xs) : tyV K "list" (.ref p) H := .inl ⟨rfl, xs, h⟩
class RdTy (α : Type) : Prop
instance : RdTy V := ⟨⟩
instance : RdTy Int := ⟨⟩
instance : RdTy Nat := ⟨⟩
instance : RdTy Bool := ⟨⟩
instance : RdTy Str := ⟨⟩
instance : RdTy HO := ⟨⟩
instance : RdTy Value := ⟨⟩
instance : RdTy Obj := ⟨⟩
instance {α : Type} : RdTy (List α) := ⟨⟩
instance {α : Type} : RdTy (Array α) := ⟨⟩
instance {α β : Type} : RdTy (Sum α β) := ⟨⟩
theorem exI {α : Type} [RdTy α] {p : α → Prop} (w : α) (h : p w) : Exists p := ⟨w, h⟩
/-! ### the pool -/
def PoolO (o : HO) (c : Nat) : Prop := ∃ a b n : Int, o = .lst [.int a, .int b, .int n] ∧ 0 ≤ a ∧ 0 ≤ b ∧ b < 2 ^ 62 ∧ 0 ≤ n ∧ n ≤ c
def PoolAt (H : Hp) (p : Addr) (c : Nat) : Prop := ∃ o, H p = some o ∧ PoolO o c
theorem PoolO.mono {o : HO} {c d : Nat} (h : PoolO o c) (l : c ≤ d) : PoolO o d := by
  obtain ⟨a, b, n, e, h1, h2, h3, h4, h5⟩ := h
  exact ⟨a, b, n, e, h1, h2, h3, h4, by omega⟩
def spPool (K : PySem.W.Frag) : Sp := fun vs H Q _ => ∃ (a : Addr) (ns : List Int) (i : Nat), vs = [.ref a, .int (i : Int)] ∧ SqL K H a (ns.map V.int) ∧ i < 1000 ∧
  ∀ p o, H p = none → PoolO o 0 → Q (.ref p) (upd H p o)
def spDraw : Sp := fun vs H Q _ => ∃ (p : Addr) (m : Int) (c : Nat) (o : HO), vs = [.ref p, .int m] ∧ H p = some o ∧ PoolO o c ∧ 0 < m ∧ m < 2 ^ 200 ∧ c < 2 ^ 40 ∧
  ∀ r o', 0 ≤ r → r < m → PoolO o' (c + 1) → Q (.int r) (upd H p o')
local macro_rules | `(tactic| walk_at "hp") => `(tactic| first | with_reducible assumption | with_reducible exact upd_same | (with_reducible apply upd_old; (focus (walk_at "hp")); (focus with_reducible assumption)) | (with_reducible apply upd_oth; (focus (first | with_reducible assumption | (with_reducible apply Ne.symm; with_reducible assumption))); walk_at "hp"))
local macro_rules | `(tactic| walk_at "sq") => `(tactic| first | with_reducible assumption | (with_reducible apply SqL.of; walk_at "hp") | (with_reducible apply SqT.of; walk_at "hp"))
local macro_rules | `(tactic| walk_at "side") => `(tactic| first | with_reducible assumption | exact ⟨_, rfl⟩ | walk_at "hp" | walk_at "sq" | (with_reducible apply tyV_lst; walk_at "sq") | (with_reducible apply Or.inl; walk_at "sq") | (with_reducible apply Or.inr; walk_at "sq") | with_reducible exact cmul_l (by decide) | with_reducible exact cmul_r (by decide) | with_reducible exact cpow_lit (by decide) | with_reducible exact cdiv_lit (by decide) | decide | exact sz_le rfl | exact sz_lt rfl | omega)
local macro_rules | `(tactic| walk_at "kp") => `(tactic| first | with_reducible assumption | with_reducible exact Kp.refl | (with_reducible apply Kp.set1; walk_at "kp") | (with_reducible apply Kp.new; (focus (walk_at "kp")); (focus with_reducible assumption)) | (with_reducible apply Kp.fresh; (focus (walk_at "kp")); (focus with_reducible assumption)))
local macro_rules | `(tactic| walk_at "rd1") => `(tactic| first
  | refine And.intro rfl ?_
  | apply exI
  | (refine Or.inl ?_; apply exI; refine And.intro rfl ?_)
  | (refine Or.inr ?_; apply exI; refine And.intro rfl ?_)
  | (refine And.intro ?_ ?_; (focus (walk_at "side"))))
local macro_rules | `(tactic| walk_at "rd") => `(tactic| repeat (walk_at "rd1"))
/-! ### further rules: a staticmethod called off its class, list of a text -/
/-- C.m is a staticmethod: its record at p, its def at f -/
structure SMet (K : PySem.W.Frag) (C : Addr) (mc : Value) (m : Str) (p f : Addr) : Prop where
  at_ : PySem.W.findCls K (.ref C) mc m = some (.get (.builtin "staticmethod.__get__") (.ref p) .none (.ref C))
  rc : ∃ rest, PySem.W.recIn K p "staticmethod" = some (.ref f :: rest)
def tSMeth (C : Addr) (sp : Sp) (dvs : List V) (E : XK) (ta : TE) (t : TA) : TE := fun σ H Q => ta σ H fun x H1 => x = .ref C ∧ t σ H1 fun vs H2 => sp (vs ++ dvs) H2 Q E
theorem pe_smeth {X : Cx} {CX : CXT} {k : Nat} {C p f : Addr} {fd : FuncData} {ps : List Str} {ds : List Value} {dvs : List V} {mc : Value} {sp : Sp} {E : XK} {o e : Expr} {es : List Expr} {m : Str} {pos apos : Pos} {ta : TE} {t : TA} {pl : Sem Bool}
    (he : PE X o ta) (r : ClX.CRead X.K C mc) (c : SMet X.K C mc m p f) (F : FnOk X.prog X.w X.K X.mg X.base CX k f fd ps sp) (hr : Room k X.A) (hk : PySem.W.keepIn X.K (.ref f) = true) (hb : Binds X.K fd ps ds) (hd : Vals dvs ds) (hx : Passes CX X E) (ha : PA X (e :: es) t)
    (hst : starEach (e :: es) X.env = (false, eval e X.env) :: starEach es X.env := by rfl) (hpl : (backTo pos (starEach es X.env)).any (·.1) = false := by rfl)
    (ht : eval (.Call (.Attribute o m apos) (e :: es) [] pos) X.env = (do
      let ov ← eval o X.env
      standAt apos.atName
      let (f, first) ← holding [ov] (getMethod ov m pl)
      callWith pos f first (backTo pos (starEach (e :: es) X.env)) (backToKw pos (keywordEach [] X.env))) := by rfl) :
    PE X (.Call (.Attribute o m apos) (e :: es) [] pos) (tSMeth C sp dvs E ta t) := by
  refine ⟨fun pins s σ H Q I h => ?_⟩
  refine PySem.W.methodCall_KW (pl := pl) (thn (he.run pins s σ H _ I h) fun u s1 ⟨x, H1, I1, rx, ex, q⟩ => ?_) ht
  subst ex
  obtain rfl : u = Value.ref C := rx
  obtain ⟨rest, hp⟩ := c.rc
  refine PySem.W.method_cls I1.kIn r.ga (PySem.W.cls_bind I1.kIn r.rd c.at_ ?_)
  refine wpAny_call (PySem.W.sm_get (s := { s1 with toks := s1.toks + 1 }) I1.kIn hp (PySem.W.handed_on rfl ?_))
  have I2 := I1.tok (s1.toks + 1)
  refine PySem.W.callWith_K (h₀ := X.base) (first := []) I2.ok.mod.kin hk (thn (ha.run pos pins _ σ H1 _ I2 q) fun us s3 ⟨vs, H2, I3, rv, q2⟩ => ⟨I3.kIn, ?_⟩) hst hpl
  exact run_fn F hr hb hd hx I3 rv q2
theorem call_list_text {X : Cx} (hc : X.calm = true) : CallR X (.type "list") (fun xs H Q => ∃ z : Str, xs = [.str z] ∧ z.length ≤ sizeLine ∧ ∀ l, H l = none → Q (.ref l) (upd H l (.lst (z.cps.toList.map fun c => .str ⟨#[c]⟩)))) := by
  intro pins s σ H xs us Q I r h
  obtain ⟨z, rfl, hz, q⟩ := h
  obtain ⟨u, rfl, t, rfl⟩ := vals1 r
  refine call_list_str (I.ok.hd hc) z t (fun h' tk acc c' kp e it => ?_) hz
  have hv : Vals (z.cps.toList.map fun c => V.str ⟨#[c]⟩) acc.toList := by
    refine vals_of_at (by rw [List.length_map, Array.length_toList, Array.length_toList, it.1]) fun j x u e1 e2 => ?_
    rw [Array.getElem?_toList] at e2
    obtain ⟨c, tk, hc1, rfl⟩ := it.2 j u e2
    rw [List.getElem?_map, Array.getElem?_toList, hc1] at e1
    cases e1
    exact ⟨tk, rfl⟩
  refine ⟨.ref s.heap.objs.size, _, I.laid (o := .lst (z.cps.toList.map fun c => V.str ⟨#[c]⟩)) (t' := tk) kp (Nat.le_refl _) ?_, rfl, q _ (I.hok.fresh (Nat.le_refl _))⟩
  exact ⟨by rw [List.length_map, Array.length_toList]; exact hz, acc.toList, c', hv, by simpa using e⟩
/-! ### data: == of lists and tuples -/
theorem eqvAll_nil {ds : List PyData} : PyData.eqvAll ds [] = ds.isEmpty := by
  cases ds <;> rfl
def asc (z : Str) : Prop := ∀ c ∈ z.cps.toList, c < 128
theorem asc_ok {z : Str} (h : asc z) : PyData.strOk z = true := by
  unfold PyData.strOk
  rw [Array.all_eq_true]
  intro i hi
  have := h z.cps[i] (by rw [Array.mem_toList_iff]; exact Array.getElem_mem hi)
  simp; omega
theorem dp_strs {K : PySem.W.Frag} {H : Hp} : ∀ ys : List Str, DpAll K H (ys.map V.str) (ys.map PyData.str)
  | [] => .nil
  | y :: r => .cons (.str y) (dp_strs r)
theorem lay_strs : ∀ {ys : List Str}, (∀ y ∈ ys, asc y) → PyData.canLayAll0 (ys.map PyData.str) = true
  | [], _ => rfl
  | y :: r, h => by
    show (PyData.strOk y && PyData.canLayAll0 (r.map PyData.str)) = true
    rw [asc_ok (h y List.mem_cons_self), lay_strs fun z hz => h z (List.mem_cons_of_mem _ hz)]; rfl
theorem depth_strs : ∀ ys : List Str, PyData.depthAll (ys.map PyData.str) = 0
  | [] => rfl
  | y :: r => by
    show max 0 (PyData.depthAll (r.map PyData.str)) = 0
    rw [depth_strs r]; rfl
theorem shaped_strs {ys : List Str} (h : ∀ y ∈ ys, asc y) : SeqAt.shaped (.list (ys.map PyData.str)) = true := by
  show (PyData.canLayAll0 (ys.map PyData.str) && decide (PyData.depthAll (ys.map PyData.str) + 1 ≤ 64)) = true
  rw [lay_strs h, depth_strs]; rfl
/-! ### letters -/
def Lets (cs : List Nat) : Prop := ∀ c ∈ cs, 97 ≤ c ∧ c ≤ 122
def chr1 (c : Nat) : Str := ⟨#[c]⟩
structure IsWord (w : Str) : Prop where
  lo : 1 ≤ w.cps.toList.length
  hi : w.cps.toList.length ≤ 8
  al : Lets w.cps.toList
def alpha : Str := "abcdefghijklmnopqrstuvwxyz"
theorem alpha_all : ∀ n : Nat, n < 26 → alpha.cps.toList[n]? = some (97 + n) := by
  have h : (List.range 26).all (fun n => decide (alpha.cps.toList[n]? = some (97 + n))) = true := by decide +kernel
  intro n hn
  exact of_decide_eq_true (List.all_eq_true.mp h n (List.mem_range.mpr hn))
theorem alpha_at {r : Int} (h0 : 0 ≤ r) (h1 : r < 26) : atI alpha.cps.toList r = some (97 + r.toNat) := by
  have e : ((r.toNat : Nat) : Int) = r := by omega
  have h := atI_nat (alpha_all r.toNat (by omega))
  rw [e] at h
  exact h
theorem join_chr : ∀ cs : List Nat, Txt.join (Str.ofString "") (cs.map chr1) = ⟨cs.toArray⟩ := by
  intro cs
  show Builtin.Str.glued (Str.ofString "") (cs.map chr1) = _
  rw [StrLaws.glued_eq_join]
  have e0 : (Str.ofString "") = Str.empty := by decide +kernel
  rw [e0]
  induction cs with
  | nil => rfl
  | cons c r ih =>
    cases r with
    | nil => rfl
    | cons b r =>
      show chr1 c ++ Str.empty ++ Str.join Str.empty ((b :: r).map chr1) = _
      rw [ih]
      show (⟨(#[c] ++ #[]) ++ (b :: r).toArray⟩ : Str) = ⟨(c :: b :: r).toArray⟩
      simp
theorem sum_chr : ∀ cs : List Nat, ((cs.map chr1).map (·.length)).sum = cs.length
  | [] => rfl
  | c :: r => by
    show 1 + ((r.map chr1).map (·.length)).sum = r.length + 1
    rw [sum_chr r]; omega
theorem alpha_len : alpha.length ≤ sizeLine := by decide +kernel
/-- [letters[draw(pool, 26)] for k in range(n)] -/
theorem lc_letters {n i0 i1 ik : Nat} {σ : St} {H1 : Hp} {D p : Addr} {o : HO} {c : Nat} {Qd : Hp → Prop} (hD : H1 D = none) (hp : H1 p = some o) (hc : PoolO o c) (hb : c + n < 2 ^ 40) (hn : n < 1000000)
    (s0 : σ[i0]? = some (some (.ref p))) (s1 : σ[i1]? = some (some (.str alpha))) (n0 : i0 ≠ ik) (n1 : i1 ≠ ik)
    (q : ∀ H' cs o', cs.length = n → Lets cs → Kp (fun b => b = p) H1 H' → H' p = some o' → PoolO o' (c + n) → H' D = some (.lst ((cs.map chr1).map V.str)) → Qd H') :
    ∃ W : Nat → Nat → Hp → Prop, (∃ m, W 0 m (upd H1 D (.lst []))) ∧ ∀ i m H, W i m H →
      ((Itr 0 n).stop i H ∧ Qd H) ∨ ((Itr 0 n).go i H ∧ ∃ Nx : Hp → Prop, (∀ H', Nx H' → ∃ m', m' < m ∧ W (i + 1) m' H') ∧ ∀ x H', (Itr 0 n).yld i H x H' → gName ik x (wipe σ [ik]) H' fun σ2 H2 => wipe σ2 [ik] = wipe σ [ik] ∧ tYes σ2 H2 fun b H3 =>
        if b = true then tOp rIxS (tVar i1) (tCall spDraw [] E0 (tCons (tVar i0) (tCons (tC (.int 26)) tNil))) σ2 H3 fun y H4 => ∃ acc, H4 D = some (.lst acc) ∧ acc.length < sizeLine ∧ Nx (upd H4 D (.lst (acc ++ [y]))) else Nx H3) := by
  have npD : p ≠ D := ne_of_none hp hD
  have w0 : ∀ v, ((wipe σ [ik]).set ik (some v))[i0]? = some (some (.ref p)) := fun v => by
    rw [List.getElem?_set_ne (Ne.symm n0), wipe_out (by simp [n0])]; exact s0
  have w1 : ∀ v, ((wipe σ [ik]).set ik (some v))[i1]? = some (some (.str alpha)) := fun v => by
    rw [List.getElem?_set_ne (Ne.symm n1), wipe_out (by simp [n1])]; exact s1
  refine lc_range (fun i H => ∃ cs o', cs.length = i ∧ Lets cs ∧ Kp (fun b => b = p) H1 H ∧ H p = some o' ∧ PoolO o' (c + i) ∧ H D = some (.lst ((cs.map chr1).map V.str))) ?_ ?_ ?_
  · exact ⟨[], o, rfl, (fun _ h => nomatch h), Kp.refl.new hD, upd_old hp hD, hc, upd_same⟩
  · rintro i H hi ⟨cs, o', e1, e2, e3, e4, e5, e6⟩
    refine ⟨?_, ?_⟩
    · show wipe ((wipe σ [ik]).set ik _) [ik] = wipe σ [ik]
      show (((σ.set ik none).set ik _).set ik none) = σ.set ik none
      rw [List.set_set, List.set_set]
    · refine ⟨_, w1 _, _, w0 _, p, 26, c + i, o', rfl, e4, e5, by decide, by decide, by omega, fun r o2 r0 r1 h2 => ?_⟩
      refine ⟨alpha, r, _, rfl, rfl, alpha_len, alpha_at r0 r1, (cs.map chr1).map V.str, upd_oth (Ne.symm npD) e6, ?_, ?_⟩
      · rw [List.length_map, List.length_map, e1, sizeLine_eq]; omega
      · refine ⟨cs ++ [97 + r.toNat], o2, ?_, ?_, ?_, ?_, h2, ?_⟩
        · rw [List.length_append, e1]; rfl
        · intro x hx
          rcases List.mem_append.mp hx with h | h
          · exact e2 x h
          · rw [List.mem_singleton] at h
            subst h
            omega
        · exact (e3.set rfl).fresh hD
        · exact upd_oth npD upd_same
        · rw [upd_same, List.map_append, List.map_append]; rfl
  · rintro H ⟨cs, o', e1, e2, e3, e4, e5, e6⟩
    exact q H cs o' e1 e2 e3 e4 e5 e6
def spWord : Sp := fun vs H Q _ => ∃ (p : Addr) (c : Nat) (o : HO), vs = [.ref p] ∧ H p = some o ∧ PoolO o c ∧ c < 2 ^ 39 ∧
  ∀ w o' H', IsWord w → PoolO o' (c + 9) → H' p = some o' → Kp (fun b => b = p) H H' → Q (.str w) H'
/-! ### words -/
def okC (c : Nat) : Bool := decide (97 ≤ c) && decide (c ≤ 122)
def wordS (z : Str) : Bool := decide (1 ≤ z.length) && decide (z.length ≤ 8) && z.cps.toList.all okC
def wordB : V → Bool
  | .str z => wordS z
  | _ => false
inductive Thing (H : Hp) : V → Prop
  | str (z : Str) (h : z.length ≤ 1000) (ha : asc z) : Thing H (.str z)
  | int (i : Int) : Thing H (.int i)
  | bl (b : Bool) : Thing H (.bl b)
  | non : Thing H .non
  | lst {p : Addr} {xs : List V} (h : H p = some (.lst xs)) : Thing H (.ref p)
  | tup {p : Addr} {xs : List V} (h : H p = some (.tup xs)) : Thing H (.ref p)
theorem Thing.same {H H' : Hp} {v : V} (s : Same H H') (t : Thing H v) : Thing H' v := by
  cases t with
  | str z h ha => exact .str z h ha
  | int i => exact .int i
  | bl b => exact .bl b
  | non => exact .non
  | lst h => exact .lst (s _ _ h)
  | tup h => exact .tup (s _ _ h)
def strB : V → Bool
  | .str _ => true
  | _ => false
theorem Thing.isi {K : PySem.W.Frag} {H : Hp} {v : V} (t : Thing H v) : ∃ ty, TyX K H v ty ∧ PySem.W.kitOne K ty (.type "str") = some (strB v) := by
  cases t with
  | str z h ha => exact ⟨_, .base (.str z), kit_ty (show kitB "str" "str" = some true by decide +kernel)⟩
  | int i => exact ⟨_, .base (.int i), kit_ty (show kitB "int" "str" = some false by decide +kernel)⟩
  | bl b => exact ⟨_, .base (.bl b), kit_ty (show kitB "bool" "str" = some false by decide +kernel)⟩
  | non => exact ⟨_, .base .non, kit_ty (by decide +kernel)⟩
  | lst h => exact ⟨_, .base (.lst h), kit_ty (show kitB "list" "str" = some false by decide +kernel)⟩
  | tup h => exact ⟨_, .base (.tup h), kit_ty (show kitB "tuple" "str" = some false by decide +kernel)⟩
theorem list1_lt (a b : Nat) : ([a] : List Nat) < [b] ↔ a < b := by
  constructor
  · intro h
    cases h with
    | rel h => exact h
    | cons h => cases h
  · intro h
    exact .rel h
theorem le_a (c : Nat) : (!decide ((⟨#[c]⟩ : Str).cps.toList < (Str.ofString "a").cps.toList)) = decide (97 ≤ c) := by
  have e : (Str.ofString "a").cps.toList = [97] := by decide +kernel
  rw [e, ← decide_not]
  apply decide_eq_decide.mpr
  show ¬ ([c] < [97]) ↔ _
  rw [list1_lt]; omega
theorem le_z (c : Nat) : (!decide ((Str.ofString "z").cps.toList < (⟨#[c]⟩ : Str).cps.toList)) = decide (c ≤ 122) := by
  have e : (Str.ofString "z").cps.toList = [122] := by decide +kernel
  rw [e, ← decide_not]
  apply decide_eq_decide.mpr
  show ¬ ([122] < [c]) ↔ _
  rw [list1_lt]; omega
theorem all_take {α : Type} {p : α → Bool} {l : List α} {i : Nat} {x : α} (h : l[i]? = some x) (a : (l.take i).all p = true) (b : p x = true) : (l.take (i + 1)).all p = true := by
  rw [List.take_add_one, h, List.all_append, a, Bool.true_and]
  show ([x] : List α).all p = true
  rw [List.all_cons, b]; rfl
theorem all_no {α : Type} {p : α → Bool} {l : List α} {i : Nat} {x : α} (h : l[i]? = some x) (b : p x = false) : l.all p = false := by
  cases e : l.all p with
  | false => rfl
  | true =>
    rw [List.all_eq_true.mp e x (List.mem_of_getElem? h)] at b
    cases b
theorem len_toList (z : Str) : z.cps.toList.length = z.length := by simp [Str.length]
theorem IsWord.ok {w : Str} (h : IsWord w) : wordS w = true := by
  unfold wordS
  rw [← len_toList, decide_eq_true h.lo, decide_eq_true h.hi, Bool.true_and, Bool.true_and, List.all_eq_true]
  intro c hc
  have := h.al c hc
  unfold okC
  rw [decide_eq_true this.1, decide_eq_true this.2]; rfl
theorem wordS_of {z : Str} (h : wordS z = true) : IsWord z := by
  unfold wordS at h
  rw [Bool.and_eq_true, Bool.and_eq_true, decide_eq_true_eq, decide_eq_true_eq, List.all_eq_true] at h
  refine ⟨by rw [len_toList]; exact h.1.1, by rw [len_toList]; exact h.1.2, fun c hc => ?_⟩
  have := h.2 c hc
  unfold okC at this
  rw [Bool.and_eq_true, decide_eq_true_eq, decide_eq_true_eq] at this
  exact this
def spIsWord : Sp := fun vs H Q _ => ∃ v, vs = [v] ∧ Thing H v ∧ Q (.bl (wordB v)) H
/-! ### own errors: an __init__ that says super().__init__(text) and stores fields -/
/-- the stores of an __init__: self.F = a parameter | a text -/
inductive Sts (ps : List Str) : List Stmt → List (Str × Sum Nat Str) → Prop
  | nil : Sts ps [] []
  | par {F p : Str} {i : Nat} {q1 q2 q3 q4 : Pos} {r : List Stmt} {fs : List (Str × Sum Nat Str)} (h : ps[i]? = some p) (t : Sts ps r fs) : Sts ps (.Assign [.Attribute (.Name "self" q1) F q2] (.Name p q3) q4 :: r) ((F, .inl i) :: fs)
  | con {F c : Str} {j : Nat} {q1 q2 q3 q4 : Pos} {r : List Stmt} {fs : List (Str × Sum Nat Str)} (t : Sts ps r fs) : Sts ps (.Assign [.Attribute (.Name "self" q1) F q2] (.Constant (.str c) j q3) q4 :: r) ((F, .inr c) :: fs)
def fldV (vs : List V) : Sum Nat Str → V
  | .inl i => vs.getD i .non
  | .inr c => .str c
def errF (vs : List V) : List (Str × Sum Nat Str) → List (Str × V) → List (Str × V)
  | [], acc => acc
  | p :: r, acc => errF vs r ((p.1, fldV vs p.2) :: acc)
/-- an exception while its __init__ runs -/
structure ErrAt (h0 h : Heap) (x C L : Addr) (m : Str → Option Value) (acc : List (Str × V)) (dd : Option Addr) : Prop where
  keep : ∀ b o, b ≠ x → h0.get? b = some o → h.get? b = some o
  sz : h0.objs.size ≤ h.objs.size
  ns : h.Ns L m
  obj : ∃ t1 : Addr, h.get? x = some ({ cls := .ref C, dict := dd, data := .fields #[.ref t1, .none, .none, .none, .bool false, .none] } : Obj)
  dct : match dd with | none => acc = [] | some dx => acc ≠ [] ∧ h0.objs.size ≤ dx ∧ dx ≠ x ∧ dx ≠ L ∧ ∃ mA, h.Ns1 dx mA ∧ ∀ f, RelO (acc.lookup f) (mA f)
theorem kept_but {K : PySem.W.Frag} {h h' : Heap} {x : Addr} (X : K.In h) (hx : K.lookup x = none) (k : ∀ b o, b ≠ x → h.get? b = some o → h'.get? b = some o) : K.In h' := fun a o e =>
  k a o (fun z => by rw [z, hx] at e; cases e) (X a o e)
/-- what the written part says of an error's class, at C; its __init__ at fI -/
structure ErrC (P : Program) (K : PySem.W.Frag) (C fI : Addr) (st : Stmt) (q : Str) (ps : List Str) (fs : List (Str × Sum Nat Str)) : Prop where
  cls : ∃ nm qn N bs bm sn sub ab col dd k0 k1 k2 k3 k5, K.lookup C = some (excClassObj nm qn C N bs bm true sn sub ab col dd k0 k1 k2 k3 k5 "ValueError.__new__") ∧ PySem.HandSPX.refsVE bm = true
  sa : PySem.W.findIn K (.ref C) "__setattr__" = some (some (.builtin "object.__setattr__"))
  ga : PySem.W.findIn K (.ref C) "__getattribute__" = some (some (.builtin "BaseException.__getattribute__"))
  gg : PySem.W.findIn K (.ref C) "__getattr__" = some none
  noF : ∀ p ∈ fs, PySem.W.findIn K (.ref C) p.1 = some none
  iC : PySem.W.findIn K (.ref C) "__init__" = some (some (.ref fI))
  tC : PySem.W.typeIn K (.ref fI) = some (.type "function")
  kC : PySem.W.keepIn K (.ref C) = true
  exC : PySem.W.subIn K (.ref C) (.type "BaseException") = some true
  veC : PySem.W.subIn K (.ref C) (.type "ValueError") = some true
  tyC : PySem.W.typeIn K (.ref C) = some (.type "type")
  hdC : PySem.W.hasDictIn K C = true
  su : PySem.W.ks_superIn K C C "__init__" = some (some (.builtin "ValueError.__init__"))
  mro : PySem.W.mroIn K C (.ref C) = some true
  te : PySem.W.exmOne K (.ref C) (.ref C) = some true
  op : PySem.W.nsIn K cStatics "thirdparty.any" = some none
  fn : ∃ (oc : Value) (od : Option Addr) (doc pm : Value) (an : Option Addr) (cda cc : Addr) (ct : Value) (osl : Array (Option Value)) (ccl : Value) (cdd : Option Addr) (vs : Array Value) (ccs : Array (Option Value)) (tf : Tok) (cl : Value) (cld : Option Addr) (csl : Array (Option Value)),
    K.lookup fI = some ⟨oc, od, .func (PySem.W.ksFn "__init__" q (defArgs st) (defBody st) (defScope st) .none .none doc pm an (.ref cda) ct cc), osl⟩ ∧ PySem.W.codeIn K (.ref cda) q = true ∧
    K.lookup cda = some ⟨ccl, cdd, .fields vs, ccs⟩ ∧ vs[2]? = some (.str P.main.file tf) ∧ K.lookup cc = some ⟨cl, cld, .cell (some (.ref C)), csl⟩
  hd : ∃ ar : Arg, ((defArgs st).posonlyargs ++ (defArgs st).args).head? = some ar ∧ ar.arg = "self"
  bd : ∀ (doc pm : Value) (an : Option Addr) (cda cc : Addr) (ct : Value) (us : List Value), us.length = ps.length + 1 → bindArgs (PySem.W.ksFn "__init__" q (defArgs st) (defBody st) (defScope st) .none .none doc pm an (.ref cda) ct cc) ⟨us, []⟩ = pure ((("self" : Str) :: ps).zip us)
  bo : ∃ (p0 p1 p2 p3 p4 p5 : Pos) (j : Nat) (msg : Str) (sts : List Stmt), defBody st = .Expr (.Call (.Attribute (.Call (.Name "super" p0) [] [] p1) "__init__" p2) [.Constant (.str msg) j p3] [] p4) p5 :: sts ∧ Sts ps sts fs ∧
    ∀ (L cda cc : Addr), ∃ pl : Sem Bool, eval (.Call (.Attribute (.Call (.Name "super" p0) [] [] p1) "__init__" p2) [.Constant (.str msg) j p3] [] p4) (PySem.W.ksEnv q (defScope st) L fI (.ref cda) cc) = (do
      let ov ← attributeBase (.Call (.Name "super" p0) [] [] p1) "__init__" (PySem.W.ksEnv q (defScope st) L fI (.ref cda) cc) (eval (.Call (.Name "super" p0) [] [] p1) (PySem.W.ksEnv q (defScope st) L fI (.ref cda) cc))
      standAt p2.atName
      let (f, first) ← holding [ov] (getMethod ov "__init__" pl)
      callWith p4 f first (backTo p4 (starEach [.Constant (.str msg) j p3] (PySem.W.ksEnv q (defScope st) L fI (.ref cda) cc))) [])
  sck : (defScope st).kind = .function
  scc : (defScope st).isCoroutine = false
  scg : (defScope st).isGenerator = false
  scn : ∀ x ∈ (defScope st).names, x.2 ≠ .cell
  scl : ∀ x ∈ (("self" : Str) :: ps), (defScope st).names.lookup x = some .local
  scs : (defScope st).names.lookup ("super" : Str) = some .globalImplicit
  scf : (defScope st).names.lookup ("__class__" : Str) = some .free
  nd : (("self" : Str) :: ps).Nodup
  top : (P.main.scope.names.lookup ("super" : Str)).isSome = false
section
open PySem PySem.W PySem.Calls PyProof.Rows PySem.HandSPX
variable {prog : Program} {w : World} {A : Around} {K : PySem.W.Frag} {C fI : Addr} {st : Stmt} {q : Str} {ps : List Str} {fs : List (Str × Sum Nat Str)}
theorem err_stores (T : ErrC prog K C fI st q ps fs) {h0 : Heap} {x L : Addr} {m : Str → Option Value} {vs : List V} {env : Env} {E : Value → Shared → Prop} (X0 : K.In h0) (hnx : K.lookup x = none) (hLx : L ≠ x)
    (hself : m "self" = some (.ref x)) (hpar : ∀ (i : Nat) p, ps[i]? = some p → ∃ v u, vs[i]? = some v ∧ RelV v u ∧ m p = some u)
    (hk : env.scope.kind = .function) (hlo : env.locals = L) (hkl : ∀ y ∈ (("self" : Str) :: ps), env.kindOf y = some .local) (hdb : ∀ y ∈ (("self" : Str) :: ps), (y == ("__debug__" : Str)) = false) :
    ∀ {sts : List Stmt} {fs' : List (Str × Sum Nat Str)}, Sts ps sts fs' → (∀ p ∈ fs', p ∈ fs) → ∀ {acc : List (Str × V)} {dd : Option Addr} {s : Shared} {Q : Flow → Shared → Prop}, ErrAt h0 s.heap x C L m acc dd → acc.length + fs'.length ≤ 100 →
      (∀ h' tk dd', ErrAt h0 h' x C L m (errF vs fs' acc) dd' → Q .next { s with heap := h', toks := tk }) → wpAny (model prog w) A (execs sts env) Q E s := by
  obtain ⟨nm, qn, N, bs, bm, sn, sub, ab, col, dd0, k0, k1, k2, k3, k5, hC, hbm⟩ := T.cls
  have hcl : clsIn K C = some { name := nm, bases := bs, mro := .ref C :: bm, ns := N, qualname := qn, hasDict := true, slotNames := sn, subclasses := sub, abstract := ab, collection := col, hasDel := false } := by unfold clsIn; rw [hC] <;> rfl
  have ldl : ∀ {y : Str} {u : Value} {pos : Pos} {s : Shared} {Q : Value → Shared → Prop}, y ∈ (("self" : Str) :: ps) → s.heap.Ns L m → m y = some u → Q u s → wpAny (model prog w) A (eval (.Name y pos) env) Q E s :=
    fun {y u pos s Q} hy hn hv h => wpAny_Name (wpAny_loadName_local hk (hkl y hy) (by rw [hlo]; exact hn) hv h) (hdb y hy)
  have hsf : ("self" : Str) ∈ (("self" : Str) :: ps) := List.mem_cons_self
  -- one store
  have one : ∀ {F : Str} {y : V} {u : Value} {acc : List (Str × V)} {dd : Option Addr} {s : Shared} {Q : Unit → Shared → Prop}, findIn K (.ref C) F = some none → RelV y u → ErrAt h0 s.heap x C L m acc dd → acc.length ≤ 99 →
      (∀ h' tk dd', ErrAt h0 h' x C L m ((F, y) :: acc) dd' → Q () { s with heap := h', toks := tk }) → wpAny (model prog w) A (setAttr (.ref x) F u) Q E s := by
    intro F y u acc dd s Q hF ry S hl hq
    obtain ⟨kp, sz, hn, ⟨t1, hx⟩, hd⟩ := S
    have X : K.In s.heap := kept_but X0 hnx kp
    obtain ⟨hp, g, d, tk, os⟩ := s
    obtain ⟨oL, esL, epL, hoL, hrL⟩ := id hn
    cases dd with
    | none =>
      have hd : acc = [] := hd
      subst hd
      refine set_plain X (ox := excO C t1) (od := none) ⟨hx, rfl, rfl, trivial⟩ T.sa ?_
      refine exc_osa X hx hcl (show refsVE (.ref C :: bm) = true from hbm) rfl hF (fun h₃ tk₃ dx k₃ dn dne hx₃ hn₃ => ?_)
      have dL : dx ≠ L := fun z => by
        have := Heap.lt_size hoL
        rw [← z] at this
        exact absurd (Nat.lt_of_lt_of_le this dn) (Nat.lt_irrefl _)
      have z3 : dx < h₃.objs.size := by
        obtain ⟨o, _, _, e, _⟩ := hn₃
        exact Heap.lt_size e
      refine hq h₃ tk₃ (some dx) ⟨fun b o hb e => k₃ b o hb (kp b o hb e), Nat.le_of_lt (Nat.lt_of_le_of_lt (Nat.le_trans sz dn) z3), ⟨oL, esL, epL, k₃ _ _ hLx hoL, hrL⟩, ⟨t1, hx₃⟩, ?_⟩
      exact ⟨List.cons_ne_nil _ _, Nat.le_trans sz dn, dne, dL, _, hn₃, relO_put (fs := []) ry fun g => True.intro⟩
    | some dx =>
      obtain ⟨_, d1, d2, d3, mA, hns, rel⟩ := hd
      have hw := within_of rel
      obtain ⟨oD, _, _, hoD, _, _⟩ := hns.count hw
      refine set_plain X (ox := { cls := .ref C, dict := some dx, data := .fields #[.ref t1, .none, .none, .none, .bool false, .none] }) (od := some oD) ⟨hx, rfl, rfl, hoD⟩ T.sa ?_
      refine PySem.OEX.osa_old X hx hns hw (by rw [List.length_map]; omega) hcl (show refsVE (.ref C :: bm) = true from hbm) rfl hF (fun h' tk' k hn' => ?_)
      have z3 : dx < h'.objs.size := by
        obtain ⟨o, _, _, e, _⟩ := hn'
        exact Heap.lt_size e
      refine hq h' tk' (some dx) ⟨fun b o hb e => k b o (fun z => ?_) (kp b o hb e), Nat.le_of_lt (Nat.lt_of_le_of_lt d1 z3), ⟨oL, esL, epL, k _ _ (Ne.symm d3) hoL, hrL⟩, ⟨t1, k _ _ (Ne.symm d2) hx⟩, ⟨List.cons_ne_nil _ _, d1, d2, d3, _, hn', relO_put ry rel⟩⟩
      have := Heap.lt_size e
      rw [z] at this
      exact absurd (Nat.lt_of_lt_of_le this d1) (Nat.lt_irrefl _)
  intro sts fs' S
  induction S with
  | nil =>
    intro hfs acc dd s Q S hl hq
    exact wpAny_execs_nil (by have := hq s.heap s.toks dd S; exact this)
  | @par F p i q1 q2 q3 q4 r fs1 h t ih =>
    intro hfs acc dd s Q S hl hq
    obtain ⟨v, u, hv, ru, hm⟩ := hpar i p h
    have hp : p ∈ (("self" : Str) :: ps) := List.mem_cons_of_mem _ (List.mem_of_getElem? h)
    refine wpAny_execs_cons (plainObj_wpAny_Assign_Attribute ?_)
    refine ldl hp S.ns hm (ldl hsf S.ns hself ?_)
    have hl2 : acc.length + (fs1.length + 1) ≤ 100 := hl
    refine one (hfs _ List.mem_cons_self |> T.noF _) ru S (by omega) fun h' tk dd' S' => ?_
    refine ih (fun z hz => hfs z (List.mem_cons_of_mem _ hz)) (s := { s with heap := h', toks := tk }) S' (by rw [List.length_cons]; omega) fun h'' tk' dd'' S'' => ?_
    have e : errF vs ((F, Sum.inl i) :: fs1) acc = errF vs fs1 ((F, v) :: acc) := by
      show errF vs fs1 ((F, vs.getD i .non) :: acc) = _
      rw [List.getD_eq_getElem?_getD, hv]; rfl
    rw [e] at hq
    exact hq h'' tk' dd'' S''
  | @con F c j q1 q2 q3 q4 r fs1 t ih =>
    intro hfs acc dd s Q S hl hq
    refine wpAny_execs_cons (plainObj_wpAny_Assign_Attribute ?_)
    refine Calls.Constant_str (ldl (s := { s with toks := s.toks + 1 }) hsf S.ns hself ?_)
    have hl2 : acc.length + (fs1.length + 1) ≤ 100 := hl
    refine one (y := .str c) (s := { s with toks := s.toks + 1 }) (hfs _ List.mem_cons_self |> T.noF _) ⟨_, rfl⟩ S (by omega) fun h' tk dd' S' => ?_
    refine ih (fun z hz => hfs z (List.mem_cons_of_mem _ hz)) (s := { s with heap := h', toks := tk }) S' (by rw [List.length_cons]; omega) fun h'' tk' dd'' S'' => ?_
    exact hq h'' tk' dd'' S''
end
section
open PySem PySem.W PySem.Calls PyProof.Rows PySem.HandSPX
variable {prog : Program} {w : World} {A : Around} {K : PySem.W.Frag} {C fI : Addr} {st : Stmt} {q : Str} {ps : List Str} {fs : List (Str × Sum Nat Str)}
theorem call_mw (T : ErrC prog K C fI st q ps fs) {E : Value → Shared → Prop} {h : Heap} {g : Array GenState} {d : Drawn} {t : Nat} {os : OsState} {u e t0 : Addr} {rest : List Value} {Q : Value → Shared → Prop} (X : K.In h)
    (he : h.get? e = some (excO C t0)) (hu : h.get? u = some (kxs_mw "ValueError.__init__" e)) (hrest : rest.length ≤ sizeLine)
    (hq : ∀ h' t1, (∀ b o, b ≠ e → h.get? b = some o → h'.get? b = some o) → h'.get? e = some (excO C t1) → Q .none ⟨h', g, d, t, os⟩) :
    wpAny (model prog w) A (call (.ref u) rest) Q E ⟨h, g, d, t, os⟩ := by
  obtain ⟨nm, qn, N, bs, bm, sn, sub, ab, col, dd0, k0, k1, k2, k3, k5, hC, hbm⟩ := T.cls
  refine wpAny_call (codeAny_of_tree ?_)
  show wpAny _ A.in1 (callAny (.ref u) ⟨rest, []⟩) _ _ _
  simp only [callAny]
  refine wpAny_bind (wpAny_load hu ?_)
  simp only [kxs_mw, show (Value.type "method-wrapper" == Value.type "method" || Value.type "method-wrapper" == Value.type "builtin_function_or_method" || Value.type "method-wrapper" == Value.type "method-wrapper") = true by decide, if_true]
  refine KFB.if_so (by decide) ?_
  refine wpAny_bind (check_bound_init F.excBase_ValueError.toExcCallFacts (X _ _ hC) he rfl ?_)
  refine wpAny_bind (wpAny_pure (wpAny_pure ?_))
  refine ⟨plainId_quiet F.excBase_ValueError.init.plain _, codeAny_builtin F.excBase_ValueError.initEntry ?_⟩
  exact exc_init_tree (cls := .ref C) (t0 := t0) (dv := none) (c2 := .none) (c3 := .none) (b4 := .bool false) he hrest fun h' k e1 _ => hq h' _ k e1
theorem err_init (T : ErrC prog K C fI st q ps fs) {R : Result → Shared → Prop} {s : Shared} {x t0 : Addr} {vs : List V} {us : List Value} {mg : Str → Option Value} (X : K.In s.heap) (hlim : s.heap.NoLimit)
    (G : s.heap.Ns mainGlobals mg) (hsup : mg "super" = none) (B : ∃ mb, s.heap.Ns builtinsNs mb ∧ ∀ y : Str, y ≠ "__name__" → mb y = bootBuiltins y)
    (hx : s.heap.get? x = some (excO C t0)) (hnx : K.lookup x = none) (hroom : A.depth < recursionLimit) (hv : Vals vs us) (hlen : vs.length = ps.length) (hfs : fs.length ≤ 90) (hdb : ∀ y ∈ (("self" : Str) :: ps), (y == ("__debug__" : Str)) = false)
    (hq : ∀ h' tk dd L m, L ≠ x → s.heap.objs.size ≤ L → ErrAt s.heap h' x C L m (errF vs fs []) dd → R (.ok (.ret .none)) { s with heap := h', toks := tk }) :
    codeAny (model prog w) A (.call (.ref fI) ⟨.ref x :: us, []⟩) R s := by
  obtain ⟨oc, od, doc, pm, an, cda, cc, ct, osl, ccl, cdd, cvs, ccs, tf, cl, cld, csl, ho, hcd, hcode, hcv, hcell⟩ := T.fn
  obtain ⟨nm, qn, N, bs, bm, sn, sub, ab, col, dd0, k0, k1, k2, k3, k5, hC, hbm⟩ := T.cls
  obtain ⟨p0, p1, p2, p3, p4, p5, j, msg, sts, hbody, hsts, hev⟩ := T.bo
  obtain ⟨ar, har, hself⟩ := T.hd
  have hcl : clsIn K C = some { name := nm, bases := bs, mro := .ref C :: bm, ns := N, qualname := qn, hasDict := true, slotNames := sn, subclasses := sub, abstract := ab, collection := col, hasDel := false } := by unfold clsIn; rw [hC] <;> rfl
  have hul : us.length = ps.length := by rw [← hlen]; exact hv.length.symm
  have hbind := BindsTo.of_eq (s := s) (T.bd doc pm an cda cc ct (.ref x :: us) (by rw [List.length_cons, hul]))
  have binK : ∀ y ∈ ((("self" : Str) :: ps).zip (Value.ref x :: us)), (defScope st).names.lookup y.1 = some .local := fun ⟨n, u⟩ hy => T.scl n (List.of_mem_zip hy).1
  refine ks_codeAny_call_defAt (fd := ksFn "__init__" q (defArgs st) (defBody st) (defScope st) .none .none doc pm an (.ref cda) ct cc) (body := defBody st) (binds := (("self" : Str) :: ps).zip (Value.ref x :: us)) hroom (X _ _ ho) rfl hlim (codeRec_of X hcd) rfl hbind T.scn binK (fun h₁ hns hk₁ => ?_) T.scc T.scg T.sck
  have X₁ : K.In h₁ := X.keeps hk₁
  have hx₁ := hk₁ _ _ hx
  have hLx : s.heap.objs.size ≠ x := Nat.ne_of_gt (Heap.lt_size hx)
  have sz1 : s.heap.objs.size < h₁.objs.size := hns.lt
  generalize hm : (fun y => (List.reverse ((("self" : Str) :: ps).zip (Value.ref x :: us))).lookup y) = m at hns
  have key : ∀ (l1 : List Str) (l2 : List Value) (i : Nat) (y : Str) (u : Value), l1.Nodup → l1[i]? = some y → l2[i]? = some u → (List.reverse (l1.zip l2)).lookup y = some u := by
    intro l1
    induction l1 with
    | nil => intro l2 i y u _ h _; simp at h
    | cons a r ih =>
      intro l2 i y u nd h1 h2
      cases l2 with
      | nil => simp at h2
      | cons b l2 =>
        rw [List.zip_cons_cons, List.reverse_cons, List.lookup_append]
        cases i with
        | zero =>
          simp only [List.getElem?_cons_zero, Option.some.injEq] at h1 h2
          subst h1 h2
          have : (List.reverse (r.zip l2)).lookup a = none := by
            rw [List.lookup_eq_none_iff]
            intro p hp
            have hp' := List.mem_reverse.mp hp
            have := (List.of_mem_zip (show (p.1, p.2) ∈ r.zip l2 from hp')).1
            simp only [beq_eq_false_iff_ne, ne_eq, bne_iff_ne]
            intro e
            rw [e] at nd
            exact (List.nodup_cons.mp nd).1 this
          rw [this]
          simp [List.lookup]
        | succ i =>
          rw [ih l2 i y u (List.nodup_cons.mp nd).2 h1 h2]; rfl
  have mself : m "self" = some (.ref x) := by rw [← hm]; exact key _ _ 0 _ _ T.nd rfl rfl
  have mpar : ∀ (i : Nat) p, ps[i]? = some p → ∃ v u, vs[i]? = some v ∧ RelV v u ∧ m p = some u := fun i p hp => by
    have hi : i < vs.length := by rw [hlen]; exact (List.getElem?_eq_some_iff.mp hp).1
    obtain ⟨u, hu, ru⟩ := hv.get (List.getElem?_eq_getElem hi)
    refine ⟨_, u, List.getElem?_eq_getElem hi, ru, ?_⟩
    rw [← hm]
    exact key _ _ (i + 1) _ _ T.nd hp hu
  have hDget : h₁.get? C = some (excClassObj nm qn C N bs bm true sn sub ab col dd0 k0 k1 k2 k3 k5 "ValueError.__new__") := X₁ _ _ hC
  obtain ⟨pl, hev⟩ := hev s.heap.objs.size cda cc
  show _root_.PySem.wpAt _ (A.deeper (ksEnv q (defScope st) s.heap.objs.size fI (.ref cda) cc)) (.func (defBody st) (ksEnv q (defScope st) s.heap.objs.size fI (.ref cda) cc)) (execs (defBody st) (ksEnv q (defScope st) s.heap.objs.size fI (.ref cda) cc)) _ _ _
  generalize henv : ksEnv q (defScope st) s.heap.objs.size fI (.ref cda) cc = env at hev ⊢
  have e1 : env.scope = defScope st := by rw [← henv]
  have e2 : env.locals = s.heap.objs.size := by rw [← henv]
  have e3 : env.func = some fI := by rw [← henv]
  have e4 : env.code = .ref cda := by rw [← henv]
  have e5 : env.globals = mainGlobals := by rw [← henv]
  have e6 : env.builtins = builtinsNs := by rw [← henv]
  have e7 : env.cells.lookup ("__class__" : Str) = some cc := by rw [← henv]; rfl
  have kd : ∀ y, env.kindOf y = (defScope st).names.lookup y := fun y => by rw [← henv]; rfl
  have hkf : env.scope.kind = .function := by rw [e1]; exact T.sck
  generalize hbb : defBody st = body
  rw [hbb] at hbody
  have hbody2 : execs body env = execs (.Expr (.Call (.Attribute (.Call (.Name "super" p0) [] [] p1) "__init__" p2) [.Constant (.str msg) j p3] [] p4) p5 :: sts) env := by rw [hbody]
  rw [hbody2]
  refine ks_wpAt_execs_cons (ks_wpAt_Expr_any ?_ (by simp [interactive, hkf]) rfl)
  refine ks_wpAt_MethodCall (pl := pl) ?_ hev
  refine ks_wpAt_super_base ((kd _).trans T.scs) ((kd _).trans T.scf) (by decide) e3 (hk₁ _ _ (X _ _ ho)) rfl har e4 (X₁ _ _ hcode) rfl hcv (by simp) T.top ?_
  obtain ⟨mb, hB1, hB2⟩ := B
  refine ks_loadName_global hkf ((kd _).trans T.scs) (loadGlobal_builtin (by rw [e5]; exact G.keeps hk₁) hsup (by rw [e6]; exact hB1.keeps hk₁) ((hB2 _ (by decide)).trans (by decide +kernel)) ⟨rfl, ?_⟩)
  refine wpAny_loadName_free hkf ((kd _).trans T.scf) e7 ⟨_, X₁ _ _ hcell, rfl⟩ ?_
  rw [hself]
  refine wpAny_loadName_local hkf ((kd _).trans (T.scl _ List.mem_cons_self)) (by rw [e2]; exact hns) mself ?_
  refine ks_wpAny_isType_cls hDget rfl ⟨rfl, ?_⟩
  obtain ⟨hp0, g, d, tk, os⟩ := s
  refine ks_wpAny_call_super (ox := excO C t0) hDget rfl hx₁ rfl (fun c e => nomatch e) (looks_mroIn X₁ T.mro) (fun h₂ e₂ k₂ => ?_)
  have X₂ : K.In h₂ := X₁.keeps k₂
  have I₂ : InstAt h₂ x (excO C t0) C none := ⟨k₂ _ _ hx₁, rfl, rfl, trivial⟩
  have hsu := T.su
  unfold ks_superIn at hsu
  rw [hcl] at hsu
  refine kxs_getMethod kxs_ValueError e₂ (looks_opaque X₂ T.op) (l₀ := .ref C :: bm) ?_ rfl X₂ hsu (I₂.type.andThen (looks_subIn X₂ T.veC)) (ks_ne X₂ I₂ hcl) (by decide) ?_
  · exact fun A Q E s k q => wpAny_bind ((looks_clsIn X₂ hcl) A _ E s k (wpAny_pure q))
  have hu : (h₂.push (kxs_mw "ValueError.__init__" x)).get? h₂.objs.size = some (kxs_mw "ValueError.__init__" x) := Heap.get?_push_at rfl rfl
  have k₃ : ∀ b o, h₂.get? b = some o → (h₂.push (kxs_mw "ValueError.__init__" x)).get? b = some o := fun b o e => Heap.get?_push_of_some _ e
  show wpAny _ _ (callWith p4 (.ref h₂.objs.size) [] (backTo p4 (starEach [.Constant (.str msg) j p3] env)) []) _ _ _
  refine kxs_callWith (i := "ValueError.__init__") (x := x) rfl (evalArgs_plain ?_)
  show wpAny _ _ (spliced [(false, eval (.Constant (.str msg) j p3) env)]) _ _ _
  refine spliced_cons (Constant_str (spliced_nil ⟨hu, ?_⟩))
  refine call_mw T (X₂.keeps k₃) (k₃ _ _ (k₂ _ _ hx₁)) hu (by show 1 ≤ sizeLine; decide) fun h₄ t1 k₄ hx₄ => ?_
  show _root_.PySem.wpAt _ _ _ (execs sts env) _ _ _
  refine wpAt_of_wpAny ?_
  have keep4 : ∀ b o, b ≠ x → hp0.get? b = some o → h₄.get? b = some o := fun b o hb e => k₄ b o hb (k₃ _ _ (k₂ _ _ (hk₁ _ _ e)))
  obtain ⟨oL, esL, epL, hoL, hrL⟩ := id hns
  have hoL4 : h₄.get? hp0.objs.size = some oL := k₄ _ _ hLx (k₃ _ _ (k₂ _ _ hoL))
  have S0 : ErrAt hp0 h₄ x C hp0.objs.size m [] none := ⟨keep4, Nat.le_of_lt (Heap.lt_size hoL4), ⟨oL, esL, epL, hoL4, hrL⟩, ⟨t1, hx₄⟩, rfl⟩
  refine err_stores T (h0 := hp0) X hnx hLx mself mpar hkf e2 (fun y hy => (kd y).trans (T.scl y hy)) hdb hsts (fun _ z => z) (acc := []) (s := ⟨h₄, g, d, _, os⟩) S0 (by rw [List.length_nil]; omega) fun h' tk' dd' S' => ?_
  exact hq h' tk' dd' hp0.objs.size m hLx (Nat.le_refl _) S'
end
section
open PySem PySem.Spec PyProof.Rows
variable {X : Cx} {C fI : Addr} {st : Stmt} {q : Str} {ps : List Str} {fs : List (Str × Sum Nat Str)}
/-- what the making of such an error leaves: its class, its own dict (new), the fields -/
def errQ (C : Addr) (fs : List (Str × Sum Nat Str)) (vs : List V) (H1 : Hp) (Q : XK) : Prop := match fs with
  | [] => Q (.ref C) none H1
  | p :: r => ∀ d, H1 d = none → Q (.ref C) (some d) (upd H1 d (.xd (errF vs (p :: r) [])))
def tErr (C : Addr) (n : Nat) (fs : List (Str × Sum Nat Str)) (ta : TA) : L2.St → Hp → XK → Prop := fun σ H Q => ta σ H fun vs H1 => vs.length = n ∧ errQ C fs vs H1 Q
theorem errF_nil {vs : List V} : ∀ {fs : List (Str × Sum Nat Str)} {acc : List (Str × V)}, errF vs fs acc = [] → fs = [] ∧ acc = []
  | [], acc, e => ⟨rfl, e⟩
  | p :: r, acc, e => by
    obtain ⟨_, h⟩ := errF_nil (fs := r) (acc := (p.1, fldV vs p.2) :: acc) e
    cases h
theorem err_made (T : ErrC X.prog X.K C fI st q ps fs) {pins : List (Addr × Obj)} {σ : L2.St} {H1 : Hp} {s1 : Shared} {Q : XK} {vs : List V} {us : List Value} {k : Nat} (hsup : X.mg "super" = none) (hr : Room k X.A) (hfs : fs.length ≤ 90)
    (hdb : ∀ y ∈ (("self" : Str) :: ps), (y == ("__debug__" : Str)) = false) (I1 : Inv X pins σ H1 s1) (r : Vals vs us) (hl : vs.length = ps.length) (hz : us.length ≤ sizeLine)
    (q1 : errQ C fs vs H1 Q) :
    wpAny (model X.prog X.w) X.A (call (.ref C) us) (MkP X pins σ Q) X.xe s1 := by
  obtain ⟨nm, qn, N, bs, bm, sn, sub, ab, col, dd0, k0, k1, k2, k3, k5, hC, hbm⟩ := T.cls
  have hlim := I1.nolimit
  have KX := I1.kIn
  have G := I1.mod.glob.keeps I1.bk
  have B : ∃ mb, s1.heap.Ns builtinsNs mb ∧ ∀ y : Str, y ≠ "__name__" → mb y = bootBuiltins y := by
    obtain ⟨mb, b1, b2⟩ := I1.mod.blt
    exact ⟨mb, b1.keeps I1.bk, b2⟩
  obtain ⟨hp, g, dr, tk, os⟩ := s1
  have kk : ∀ b o, hp.get? b = some o → ((hp.push (PySem.W.kdv_tup us)).push (PySem.HandSPX.excO C hp.objs.size)).get? b = some o := fun b o e => Heap.get?_push_of_some _ (Heap.get?_push_of_some _ e)
  have hget : ((hp.push (PySem.W.kdv_tup us)).push (PySem.HandSPX.excO C hp.objs.size)).get? (hp.objs.size + 1) = some (PySem.HandSPX.excO C hp.objs.size) := by heap_get
  have hnx : X.K.lookup (hp.objs.size + 1) = none := by
    cases e : X.K.lookup (hp.objs.size + 1) with
    | none => rfl
    | some o =>
      have z : hp.get? (hp.objs.size + 1) = some o := KX _ _ e
      exact absurd (Nat.lt_of_succ_lt (Heap.lt_size z)) (Nat.lt_irrefl _)
  refine wpAny_call (PySem.HandSPX.call_own F.excBase_ValueError (fun Y => PySem.HandSPX.refsVE_contains Y bm hbm) (KX _ _ hC) (PySem.W.looks_findIn KX T.iC) (fun self => PySem.W.bind_fn KX self T.tC) hz ?_)
  have hdp := hr.dp
  refine err_init T (vs := vs) (mg := X.mg) (s := ⟨(hp.push (PySem.W.kdv_tup us)).push (PySem.HandSPX.excO C hp.objs.size), g, dr, tk, os⟩) (KX.keeps kk) (hlim.keeps kk) (G.keeps kk) hsup (let ⟨mb, b1, b2⟩ := B; ⟨mb, b1.keeps kk, b2⟩) hget hnx ?_ r hl hfs hdb fun h' tk' dd L m hLx hLz S => ?_
  · show X.A.depth + 1 < recursionLimit
    omega
  obtain ⟨kp, sz, hn, ⟨t1, hx⟩, hd⟩ := S
  have e2 : ((hp.push (PySem.W.kdv_tup us)).push (PySem.HandSPX.excO C hp.objs.size)).objs.size = hp.objs.size + 2 := by simp [Heap.size_push]
  have old0 : ∀ b o, hp.get? b = some o → h'.get? b = some o := fun b o e => kp b o (Nat.ne_of_lt (Nat.lt_succ_of_lt (Heap.lt_size e))) (kk b o e)
  obtain ⟨G', g1, g2⟩ := restrict h' fun b => decide (b ≠ hp.objs.size + 1)
  have gk : ∀ b, b ≠ hp.objs.size + 1 → G'.get? b = h'.get? b := fun b hb => g1 b (decide_eq_true hb)
  have ge : G'.get? (hp.objs.size + 1) = none := g2 _ (by simp)
  have old : ∀ b o, hp.get? b = some o → G'.get? b = some o := fun b o e => (gk b (Nat.ne_of_lt (Nat.lt_succ_of_lt (Heap.lt_size e)))).trans (old0 b o e)
  have sub2 : ∀ b o, G'.get? b = some o → h'.get? b = some o := fun b o e => by
    by_cases hb : b = hp.objs.size + 1
    · rw [hb, ge] at e; cases e
    · rw [← gk b hb]; exact e
  refine ⟨rfl, ?_⟩
  show MkP X pins σ Q (.ref (hp.objs.size + 1)) ⟨h', g, dr, tk', os⟩
  cases dd with
  | none =>
    have hd : errF vs fs [] = [] := hd
    obtain ⟨rfl, _⟩ := errF_nil hd
    have J : Inv X pins σ H1 ⟨G', g, dr, tk', os⟩ := I1.kept (t' := tk') old
    exact ⟨hp.objs.size + 1, _, _, ⟨G', g, dr, tk', os⟩, H1, .ref C, none, rfl, J, sub2, ge, hx, ⟨rfl, rfl⟩, rfl, rfl, I1.hok.fresh (Nat.le_succ _), rfl, I1.bare, raises_own T.exC T.tyC, q1⟩
  | some dx =>
    obtain ⟨d0, d1, d2, d3, mA, hns, rel⟩ := hd
    rw [e2] at d1
    have hdx : hp.objs.size ≤ dx := Nat.le_trans (Nat.le_add_right _ 2) d1
    have nd : H1 dx = none := I1.hok.fresh hdx
    have ob : ObjOk X.prog X.w (upd H1 dx (.xd (errF vs fs []))) G' dx (.xd (errF vs fs [])) := ⟨mA, hns.at (fun o q => (gk dx d2).trans q), rel⟩
    have J : Inv X pins σ (upd H1 dx (.xd (errF vs fs []))) ⟨G', g, dr, tk', os⟩ := I1.laid (t' := tk') old hdx ob
    refine ⟨hp.objs.size + 1, _, _, ⟨G', g, dr, tk', os⟩, _, .ref C, some dx, rfl, J, sub2, ge, hx, ⟨rfl, rfl⟩, rfl, rfl, ?_, rfl, I1.bare, raises_own T.exC T.tyC, ?_⟩
    · rw [upd_ne (Ne.symm d2)]
      exact I1.hok.fresh (Nat.le_succ _)
    · cases fs with
      | nil =>
        exact absurd rfl d0
      | cons p r => exact q1 dx nd
/-- C(e, ..) -/
theorem pmk_err {x : Str} {e : Expr} {es : List Expr} {ta : TA} {p pos : Pos} {k : Nat} (T : ErrC X.prog X.K C fI st q ps fs) (hm : X.mg x = some (.ref C)) (hsup : X.mg "super" = none) (hr : Room k X.A) (ha : PA X (e :: es) ta) (hg : Gl X x := by rfl)
    (hfs : fs.length ≤ 90 := by decide) (hps : ps.length ≤ 90 := by decide) (hdb : ∀ y ∈ (("self" : Str) :: ps), (y == ("__debug__" : Str)) = false := by decide) (hd : (x == ("__debug__" : Str)) = false := by decide)
    (he : starEach (e :: es) X.env = (false, eval e X.env) :: starEach es X.env := by rfl) (hpl : (backTo pos (starEach es X.env)).any (·.1) = false := by rfl) :
    PMk X (.Call (.Name x p) (e :: es) [] pos) (tErr C ps.length fs ta) := by
  intro pins s σ H Q I h
  refine wpAny_Call_Name_kw (ld_glob I hg hm ?_ hd)
  refine PySem.W.callWith_K (h₀ := X.base) I.ok.mod.kin T.kC (thn (ha.run pos pins s σ H _ I h) fun us s1 hh => ?_) he hpl
  obtain ⟨vs, H1, I1, r1, hl, q1⟩ := hh
  refine ⟨I1.kIn, ?_⟩
  exact err_made T hsup hr hfs hdb I1 r1 hl (by rw [List.nil_append, ← r1.length, hl, sizeLine_eq]; omega) q1
/-- C() -/
theorem pmk_err0 {x : Str} {p pos : Pos} {k : Nat} (T : ErrC X.prog X.K C fI st q [] fs) (hm : X.mg x = some (.ref C)) (hsup : X.mg "super" = none) (hr : Room k X.A) (hg : Gl X x := by rfl)
    (hfs : fs.length ≤ 90 := by decide) (hd : (x == ("__debug__" : Str)) = false := by decide) :
    PMk X (.Call (.Name x p) [] [] pos) (tErr C 0 fs tNil) := by
  intro pins s σ H Q I h
  refine wpAny_Call_Name_kw (ld_glob I hg hm ?_ hd)
  refine PySem.W.callWith_K0 I.kIn T.kC ?_
  obtain ⟨_, q1⟩ := h
  exact err_made T (vs := []) (us := []) hsup hr hfs (by decide) I .nil rfl (Nat.zero_le _) q1
end
/-! ### several except clauses, with or without a name -/
section
open PySem PySem.Spec PyProof.Rows
abbrev Cls1 := Value × Option Nat × (Addr → Value → Option Addr → TS)
def endsAs (i : Nat) (D : Ends) : Ends := { nx := fun σ' H' => D.nx (σ'.set i none) H', rt := D.rt, bk := fun σ' H' => D.bk (σ'.set i none) H', ct := fun σ' H' => D.ct (σ'.set i none) H' }
def wCl (D : Ends) (on : Option Nat) (ts : Addr → Value → Option Addr → TS) (a : Addr) (cls : Value) (d : Option Addr) (σ : L2.St) (H : Hp) : Prop := match on with
  | none => ts a cls d D σ H
  | some i => ts a cls d (endsAs i D) (σ.set i (some (.ref a))) H
/-- what the clauses wish of an exception of the body, one after the other -/
def wManyA (K : PySem.W.Frag) (Wout : WX) (D : Ends) : List Cls1 → WX
  | [] => Wout
  | (c, on, ts) :: r => fun cls d σ H => ∃ b, PySem.W.exmOne K cls c = some b ∧ (b = true → ∀ a, H a = none → wCl D on ts a cls d σ H) ∧ (b = false → wManyA K Wout D r cls d σ H)
inductive HdsA (X : Cx) : List ExceptHandler → List Cls1 → Prop
  | nil : HdsA X [] []
  | cons {x : Str} {c : Value} {ts : Addr → Value → Option Addr → TS} {b₀ : Stmt} {suite : List Stmt} {np pos' : Pos} {hds : List ExceptHandler} {l : List Cls1} (hc : Names X x c)
      (hsu : ∀ (a : Addr) (oe : Obj) (cls : Value) (d : Option Addr) (pn : List (Addr × Obj)), Zc cls d oe → (∃ vs, oe.data = .fields vs) → PSs (X.suite a ((a, oe) :: pn)) (b₀ :: suite) (ts a cls d)) (r : HdsA X hds l) :
      HdsA X (.ExceptHandler (some (.Name x np)) none (b₀ :: suite) pos' :: hds) ((c, none, ts) :: l)
  | consA {x n : Str} {c : Value} {i : Nat} {ts : Addr → Value → Option Addr → TS} {b₀ : Stmt} {suite : List Stmt} {np pos' : Pos} {hds : List ExceptHandler} {l : List Cls1} (hc : Names X x c) (hi : X.N[i]? = some n) (hln : X.env.kindOf n = some .local)
      (hsu : ∀ (a : Addr) (oe : Obj) (cls : Value) (d : Option Addr) (pn : List (Addr × Obj)), Zc cls d oe → (∃ vs, oe.data = .fields vs) → PSs (X.suite a ((a, oe) :: pn)) (b₀ :: suite) (ts a cls d)) (r : HdsA X hds l) :
      HdsA X (.ExceptHandler (some (.Name x np)) (some n) (b₀ :: suite) pos' :: hds) ((c, some i, ts) :: l)
variable {X : Cx} {body : List Stmt} {h₀ : ExceptHandler} {hds : List ExceptHandler} {l : List Cls1} {pos : Pos} {tb : WX → TS} {Wout : WX}
theorem ps_tryA (hs : X.stack = X.env :: X.outer) (hf : X.env.frame = some X.env.locals) (hN : X.N.Nodup) (tk : Takes X Wout)
    (hb : ∀ (W : WX) (pn : List (Addr × Obj)) (xe : Value → Shared → Prop), Takes (X.tr pn xe) W → PassesOwn (model X.prog X.w) X.A X.env xe → PSs (X.tr pn xe) body (tb W))
    (hh : HdsA X (h₀ :: hds) l) : PS X (.Try body (h₀ :: hds) [] [] pos) (fun D σ H => tb (wManyA X.K Wout D l) D σ H) := by
  refine ⟨fun pins s σ H D I h => ?_⟩
  have ok := I.ok
  have hfr : X.A.frames = some (X.env :: X.outer) := by rw [ok.frames, hs]
  refine wpAny_Try_except ?_
  refine wpAny_mono ((hb (wManyA X.K Wout D l) (X.pn ++ pins) (fun e s₁ => wpAny (model X.prog X.w) X.A (noteFrame e X.env) (fun _ s₂ => wpAny (model X.prog X.w) X.A (setFlight e none) (fun _ s₃ =>
    wpAny (model X.prog X.w) X.A (handleBy e X.env (h₀ :: hds)) (SP X pins D) X.xe s₃) X.xe s₂) X.xe s₁) (fun u s' xx => ?_) PassesOwn.looking).run [] s σ H D (I.toTry _) h) (fun f s1 hsp => ?_) (fun e s1 he => he)
  · -- the catch
    obtain ⟨a, B, sI, pins', σ', H', cls, d, rfl, J', nb, up, sky, na, os, ag, w⟩ := xx
    have J : Inv X pins σ' H' sI := J'.ofTry ok
    have sky' : Sky B (X.env :: X.outer) a (Zc cls d) X.env.locals s'.heap := by rw [← hs]; exact sky
    show wpAny (model X.prog X.w) X.A (noteFrame (.ref a) X.env) _ _ _
    refine Sky.land Zc.steady hfr hf sky' fun h3 fl3 up3 => ?_
    have J3 : Inv X pins σ' H' { s' with heap := h3 } := J.landed nb fl3.1 (up.trans up3) os ag
    obtain ⟨oe3, vs3, he3, hz3, hd3⟩ := fl3.there
    have notFr : ∀ {h : Heap} {o : Obj} {vs : Array Value}, h.FunFrames B (X.env :: X.outer) → h.get? a = some o → o.data = .fields vs → a ∉ frs (X.env :: X.outer) := fun {h o vs} ff e dd hm => by
      obtain ⟨_, o', e', hnf⟩ := ff.mem hm
      rw [e] at e'; cases e'
      exact hnf _ dd
    have nfr := notFr fl3.2.2.1 he3 hd3
    have nL : a ≠ X.env.locals := fun z => nfr (List.mem_filterMap.mpr ⟨X.env, List.mem_cons_self, by rw [hf, z]⟩)
    have nF : a ∉ X.fs := fun hm => by
      obtain ⟨e, he, q⟩ := List.mem_filterMap.mp hm
      exact nfr (List.mem_filterMap.mpr ⟨e, List.mem_cons_of_mem _ he, q⟩)
    have S3 := J3.suite he3 hd3 na nL nF
    have tst : ∀ {x : Str} {c : Value} {np : Pos}, Names X x c → ∀ {Q : Value → Shared → Prop} {E : Value → Shared → Prop}, Q c { s' with heap := h3 } → wpAny (model X.prog X.w) (X.A.mark (some (.ref a))) (eval (.Name x np) X.env) Q E { s' with heap := h3 } := fun {x c np} hc {Q E} q => by
      obtain ⟨hg, hdbg, hm | ⟨hm, hv, hnn⟩⟩ := hc
      · exact ld_glob (X := X.suite a ((a, oe3) :: (X.pn ++ pins))) S3 hg hm q hdbg
      · exact ld_blt (X := X.suite a ((a, oe3) :: (X.pn ++ pins))) S3 hg hm hv q hnn hdbg
    have LT : PySem.W.Looks (model X.prog X.w) h3 (typeOf (.ref a)) cls := fun A Q E s k q => wpAny_typeOf_ref (k _ _ he3) (by rw [hz3.1]; exact q)
    have go : ∀ {hds' : List ExceptHandler} {l' : List Cls1}, HdsA X hds' l' → wManyA X.K Wout D l' cls d σ' H' →
        wpAny (model X.prog X.w) X.A (handleBy (.ref a) X.env hds') (SP X pins D) X.xe { s' with heap := h3 } := by
      intro hds' l' hk
      induction hk with
      | nil =>
        intro w
        refine wpAny_handleBy_nil ?_
        obtain ⟨k1, k2, k3, oe, vs, T, oT, ts', he, hz, hd, h1, hr⟩ := id fl3
        unfold PySem.passOn
        refine wpAny_bind (wpAny_field he hd h1 ?_)
        rw [if_neg (show ¬ ((Value.ref T == Value.none) = true) from by simp)]
        have fin : wpAny (model X.prog X.w) X.A (setFlight (.ref a) X.env.frame) (fun _ s4 => wpAny (model X.prog X.w) X.A (throw (.ref a) : Sem Flow) (SP X pins D) X.xe s4) X.xe { s' with heap := h3 } := by
          rw [hf]
          refine HandSPX.setFlight_upZ fl3 fun h4 hh4 up4 => wpAny_throw (tk _ _ ?_)
          exact ⟨a, B, sI, pins, σ', H', cls, d, rfl, J, nb, (up.trans up3).trans up4, .inr (.inr (by rw [hs]; exact hh4)), na, os, ag, w⟩
        first
          | exact wpAny_bind (wpAny_pure (wpAny_bind fin))
          | exact wpAny_bind fin
      | @cons x c ts b₀ suite np pos' hds2 l2 hc hsu r ih =>
        intro w
        obtain ⟨b, hb1, hyes, hno⟩ := w
        refine wpAny_handleBy_cons (codeAny_handlers_test ?_) (by intro q; cases q)
        have LM := PySem.W.exm_one (M := model X.prog X.w) (J3.kIn) LT hb1
        refine tst hc (LM.here ?_)
        cases b with
        | true =>
          refine codeAny_handlers_suite ?_
          refine HandSPX.lands_againZ fl3 fun h4 fl4 up4 => ?_
          have J4 : Inv X pins σ' H' { s' with heap := h4 } := J.landed nb fl4.1 ((up.trans up3).trans up4) os ag
          obtain ⟨oe4, vs4, he4, hz4, hd4⟩ := fl4.there
          have S4 := J4.suite he4 hd4 na nL nF
          refine wpAny_mono ((hsu a oe4 cls d (X.pn ++ pins) hz4 ⟨_, hd4⟩).run [] _ _ H' _ S4 (hyes rfl a na)) (fun f s6 hsp => ?_) (fun _ _ z => False.elim z)
          cases f with
          | next =>
            obtain ⟨σ6, H6, S6, q6⟩ := hsp
            exact ⟨_, _, S6.unsuite ok, q6⟩
          | brk =>
            obtain ⟨σ6, H6, S6, q6⟩ := hsp
            exact ⟨_, _, S6.unsuite ok, q6⟩
          | cont =>
            obtain ⟨σ6, H6, S6, q6⟩ := hsp
            exact ⟨_, _, S6.unsuite ok, q6⟩
          | ret u =>
            obtain ⟨v6, σ6, H6, S6, r6, q6⟩ := hsp
            exact ⟨_, _, _, S6.unsuite ok, r6, q6⟩
        | false =>
          show wpAny _ X.A (handleBy (.ref a) X.env hds2) _ _ _
          exact ih (hno rfl)
      | @consA x n c i ts b₀ suite np pos' hds2 l2 hc hi hln hsu r ih =>
        intro w
        obtain ⟨b, hb1, hyes, hno⟩ := w
        have hloc : Loc X.env.scope n := .inl hln
        refine wpAny_handleBy_cons (codeAny_handlers_test ?_) (by intro q; cases q)
        have LM := PySem.W.exm_one (M := model X.prog X.w) (J3.kIn) LT hb1
        refine tst hc (LM.here ?_)
        cases b with
        | true =>
          refine codeAny_handlers_suite_as ?_
          refine HandSPX.lands_againZ fl3 fun h4 fl4 up4 => ?_
          have J4 : Inv X pins σ' H' { s' with heap := h4 } := J.landed nb fl4.1 ((up.trans up3).trans up4) os ag
          obtain ⟨oe4, vs4, he4, hz4, hd4⟩ := fl4.there
          have S4 := J4.suite he4 hd4 na nL nF
          refine store_ok (X := X.suite a ((a, oe4) :: (X.pn ++ pins))) (v := .ref a) S4 hN hi hloc rfl (fun s5 S5 => ?_) (.inr hln)
          refine wpAny_mono ((hsu a oe4 cls d (X.pn ++ pins) hz4 ⟨_, hd4⟩).run [] s5 _ H' _ S5 (hyes rfl a na)) (fun f s6 hsp => ?_) (fun _ _ z => False.elim z)
          have end_ : ∀ {σ6 : L2.St} {H6 : Hp} {Q : Shared → Prop}, Inv (X.suite a ((a, oe4) :: (X.pn ++ pins))) [] σ6 H6 s6 → (∀ s7, Inv X pins (σ6.set i none) H6 s7 → Q s7) →
              wpAny (model X.prog X.w) X.A (do bindName X.env n .none; unbindBehindTheSuite X.env n pos') (fun _ s7 => Q s7) X.xe s6 := fun {σ6 H6 Q} S6 hq => gone_ok (S6.unsuite ok) hN hi hln hq
          cases f with
          | next =>
            obtain ⟨σ6, H6, S6, q6⟩ := hsp
            exact end_ S6 fun s7 J7 => ⟨_, _, J7, q6⟩
          | brk =>
            obtain ⟨σ6, H6, S6, q6⟩ := hsp
            exact end_ S6 fun s7 J7 => ⟨_, _, J7, q6⟩
          | cont =>
            obtain ⟨σ6, H6, S6, q6⟩ := hsp
            exact end_ S6 fun s7 J7 => ⟨_, _, J7, q6⟩
          | ret u =>
            obtain ⟨v6, σ6, H6, S6, r6, q6⟩ := hsp
            exact end_ S6 fun s7 J7 => ⟨_, _, _, J7, r6, q6⟩
        | false =>
          show wpAny _ X.A (handleBy (.ref a) X.env hds2) _ _ _
          exact ih (hno rfl)
    exact go hh w
  · cases f with
    | next =>
      obtain ⟨σ', H', J', q⟩ := hsp
      exact wpAny_execs_nil ⟨σ', H', J'.ofTry ok, q⟩
    | brk =>
      obtain ⟨σ', H', J', q⟩ := hsp
      exact ⟨σ', H', J'.ofTry ok, q⟩
    | cont =>
      obtain ⟨σ', H', J', q⟩ := hsp
      exact ⟨σ', H', J'.ofTry ok, q⟩
    | ret u =>
      obtain ⟨v, σ', H', J', r, q⟩ := hsp
      exact ⟨v, σ', H', J'.ofTry ok, r, q⟩
/-! ### o.m(e, ..) with a wish by the slots, defaults, keywords -/
variable {CX : CXT} {k : Nat} {f C : Addr} {fd : FuncData} {ps ks : List Str} {sp : Sp} {dvs : List V} {ds : List Value} {E : L2.St → XK} {x m : Str} {p apos : Pos} {e o : Expr} {es : List Expr} {kws : List Keyword} {ta : TE} {t tk : TA}
def tMethS (C : Addr) (m : Str) (sp : Sp) (dvs : List V) (E : L2.St → XK) (to : TE) (ta : TA) : TE := fun σ H Q => to σ H fun x H1 => ∃ a dx fs, x = .ref a ∧ H1 a = some (.ins C dx fs) ∧ fs.lookup m = none ∧ ta σ H1 fun vs H2 => sp (.ref a :: (vs ++ dvs)) H2 Q (E σ)
theorem pe_methSD {pl : Sem Bool} (he : PE X o ta) (c : Cls X.K C) (hm : Meth X.K C m f) (F : FnOk X.prog X.w X.K X.mg X.base CX k f fd ps sp) (hr : Room k X.A) (hb : Binds X.K fd ps ds) (hd : Vals dvs ds) (hx : ∀ σ, PassesAt CX X σ (E σ)) (ha : PA X (e :: es) t)
    (hst : starEach (e :: es) X.env = (false, eval e X.env) :: starEach es X.env := by rfl) (hpl : (backTo pos (starEach es X.env)).any (·.1) = false := by rfl)
    (ht : eval (.Call (.Attribute o m apos) (e :: es) [] pos) X.env = (do
      let ov ← eval o X.env
      standAt apos.atName
      let (f, first) ← holding [ov] (getMethod ov m pl)
      callWith pos f first (backTo pos (starEach (e :: es) X.env)) (backToKw pos (keywordEach [] X.env))) := by rfl) :
    PE X (.Call (.Attribute o m apos) (e :: es) [] pos) (tMethS C m sp dvs E ta t) := by
  refine ⟨fun pins s σ H Q I h => ?_⟩
  refine PySem.W.methodCall_KW (pl := pl) (thn (he.run pins s σ H _ I h) fun u s1 ⟨x, H1, I1, rx, a, dx, fs, ex, ea, l, q⟩ => ?_) ht
  subst ex
  obtain rfl : u = Value.ref a := rx
  refine getmeth_ok I1 ea c hm l ?_
  refine PySem.W.callWith_K (first := [.ref a]) (h₀ := X.base) I.ok.mod.kin hm.kp (thn (ha.run pos pins s1 σ H1 _ I1 q) fun us s2 ⟨vs, H2, I2, r, q2⟩ => ⟨I2.kIn, ?_⟩) hst hpl
  exact run_fnSD (us := .ref a :: us) (vs := .ref a :: vs) F hr hb hd (hx σ) I2 (.cons rfl r) q2
theorem pe_methSD0 {pl : Sem Bool} (he : PE X o ta) (c : Cls X.K C) (hm : Meth X.K C m f) (F : FnOk X.prog X.w X.K X.mg X.base CX k f fd ps sp) (hr : Room k X.A) (hb : Binds X.K fd ps ds) (hd : Vals dvs ds) (hx : ∀ σ, PassesAt CX X σ (E σ))
    (ht : eval (.Call (.Attribute o m apos) [] [] pos) X.env = (do
      let ov ← eval o X.env
      standAt apos.atName
      let (f, first) ← holding [ov] (getMethod ov m pl)
      callWith pos f first (backTo pos (starEach [] X.env)) (backToKw pos (keywordEach [] X.env))) := by rfl) :
    PE X (.Call (.Attribute o m apos) [] [] pos) (tMethS C m sp dvs E ta tNil) := by
  refine ⟨fun pins s σ H Q I h => ?_⟩
  refine PySem.W.methodCall_KW (pl := pl) (thn (he.run pins s σ H _ I h) fun u s1 ⟨x, H1, I1, rx, a, dx, fs, ex, ea, l, q⟩ => ?_) ht
  subst ex
  obtain rfl : u = Value.ref a := rx
  refine getmeth_ok I1 ea c hm l ?_
  exact PySem.W.callWith_K0 (first := [.ref a]) I1.kIn hm.kp (run_fnSD (us := [.ref a]) (vs := [.ref a]) F hr hb hd (hx σ) I1 (.cons rfl .nil) q)
end
/-! ### defs under which repr is asked: no guard is up, the table of modules is a dict -/
section
open PySem PySem.Spec PyProof.Rows
def GdB (A : Around) (base : Heap) : Prop := A.guards = some [] ∧ ∃ mm, base.Ns sysModules mm
structure FnG (P : Program) (w : World) (K : PySem.W.Frag) (mg : Str → Option Value) (base : Heap) (CX : CXT) (k : Nat) (f : Addr) (fd : FuncData) (ps : List Str) (sp : Sp) : Prop where
  len : ∀ vs H Q E, sp vs H Q E → vs.length = ps.length
  run : ∀ (A : Around) (outer : List Env) (s : Shared) (H : Hp) (args : Args) (us : List Value) (vs : List V) (Q : VK) (E : XK), Room k A → GdB A base → Env0 P w K mg base A outer s H → BindsTo s fd args (ps.zip us) → Vals vs us → sp vs H Q E →
    codeAny (model P w) A (.call (.ref f) args) (CR CX outer P w H s Q E) s
theorem FnG.of {P : Program} {w : World} {K : PySem.W.Frag} {mg : Str → Option Value} {base : Heap} {CX : CXT} {k : Nat} {f : Addr} {fd : FuncData} {ps : List Str} {sp : Sp} (F : FnOk P w K mg base CX k f fd ps sp) : FnG P w K mg base CX k f fd ps sp :=
  ⟨F.len, fun A outer s H args us vs Q E hr _ => F.run A outer s H args us vs Q E hr⟩
theorem FnG.mono {P : Program} {w : World} {K : PySem.W.Frag} {mg : Str → Option Value} {base : Heap} {CX : CXT} {j k : Nat} {f : Addr} {fd : FuncData} {ps : List Str} {sp : Sp} (F : FnG P w K mg base CX j f fd ps sp) (h : j ≤ k) : FnG P w K mg base CX k f fd ps sp :=
  ⟨F.len, fun A outer s H args us vs Q E hr => F.run A outer s H args us vs Q E (hr.mono h)⟩
theorem fn_ofG {CX : CXT} {P : Program} {w : World} {K : PySem.W.Frag} {mg : Str → Option Value} {base : Heap} {k : Nat} {f : Addr} {name qual : Str} {params : Arguments} {body : List Stmt} {scope : Scope} {dV kV doc pm cdv ct oc : Value} {an od : Option Addr}
    {osl : Array (Option Value)} {N ps : List Str} {sp : Sp} (lk : K.lookup f = some ⟨oc, od, .func (PySem.W.fnOf name qual params body scope dV kV doc pm an cdv ct), osl⟩) (hcd : PySem.W.codeIn K cdv qual = true) (S : FnScope N ps scope)
    (len : ∀ vs H Q E, sp vs H Q E → vs.length = ps.length)
    (hbody : ∀ (A : Around) (outer : List Env) (s : Shared) (H : Hp) (vs : List V) (Q : VK) (E : XK), Room k (A.deeper (envOfC qual scope s.heap.objs.size f cdv)) → GdB A base → sp vs H Q E →
      ∃ t, PSs (cxOf CX P w K mg base N qual scope f cdv A outer s H E) body t ∧ t { nx := fun _ H' => Q .non H', rt := Q } (start N vs) H) :
    FnG P w K mg base CX (k + 1) f (PySem.W.fnOf name qual params body scope dV kV doc pm an cdv ct) ps sp := by
  refine ⟨len, fun A outer s H args us vs Q E hr hg e0 hb r hsp => ?_⟩
  have hl := len _ _ _ _ hsp
  have KX : K.In s.heap := e0.mod.kin.keeps fun b o e => (e0.bs b o e).1
  have lim : s.heap.NoLimit := e0.mod.nolimit.keeps fun b o e => (e0.bs b o e).1
  have hkind : ∀ y ∈ ps.zip us, scope.names.lookup y.1 = some .local ∨ (scope.names.lookup y.1 = some .cell ∧ ((cellsFrom (s.heap.objs.size + 1) scope.names []).lookup y.1).isSome = true) := fun ⟨n, v⟩ hy => by
    rcases S.par n (List.of_mem_zip hy).1 with q | q
    · exact .inl q
    · exact .inr ⟨q, PySem.W.cellsFrom_some _ _ _ (.inl q)⟩
  refine codeAny_call_function hr.depth (KX _ _ lk) rfl S.co S.gen rfl (PySem.W.codeRec_of KX hcd) (hb _ _ _ _ ?_)
  refine wpAny_newFunctionEnv_cells S.kind hkind fun env he s1 x => ?_
  subst he
  refine ⟨lim.keeps x.toInCall.keep, codeAny_func ?_⟩
  obtain ⟨t, ht, hq⟩ := hbody A outer s H vs Q E (hr.deeper _) hg hsp
  have I : Inv (cxOf CX P w K mg base N qual scope f cdv A outer s H E) [] (start N vs) H s1 := inv_start S hr.hd e0 hl r x
  refine wpAny_mono (ht.run [] s1 (start N vs) H _ I hq) (fun fl s' hs => ?_) fun e s' hs => hs
  have fin : ∀ {σ' : L2.St} {H' : Hp} {v : V} {u : Value}, Inv (cxOf CX P w K mg base N qual scope f cdv A outer s H E) [] σ' H' s' → RelV v u → Q v H' → CE outer P w H s Q u s' :=
    fun {σ' H' v u} J rv q => ⟨v, H', J.os, J.bare, J.base, J.hok, rv, q⟩
  cases fl with
  | ret u =>
    obtain ⟨v, σ', H', J, rv, q⟩ := hs
    exact fin J rv q
  | next =>
    obtain ⟨σ', H', J, q⟩ := hs
    exact fin (v := V.non) (u := Value.none) J rfl q
  | brk =>
    obtain ⟨_, _, _, q⟩ := hs
    exact False.elim q
  | cont =>
    obtain ⟨_, _, _, q⟩ := hs
    exact False.elim q
theorem okG {P : Program} {w : World} {K : PySem.W.Frag} {mg : Str → Option Value} {base : Heap} {x qual : Str} {st : Stmt} {f : Addr} {fd : FuncData} {N ps : List Str} {k : Nat} {sp : Sp} (F : L2.Fun K x qual st f fd) (S : FnScope N ps (defScope st)) (len : ∀ vs H Q E, sp vs H Q E → vs.length = ps.length)
    (hbody : ∀ (cdv : Value) (A : Around) (outer : List Env) (s : Shared) (H : Hp) (vs : List V) (Q : VK) (E : XK), Room k (A.deeper (envOfC qual (defScope st) s.heap.objs.size f cdv)) → GdB A base → sp vs H Q E →
      ∃ t, PSs (cxOf CX0 P w K mg base N qual (defScope st) f cdv A outer s H E).nox (defBody st) t ∧ t { nx := fun _ H' => Q .non H', rt := Q } (start N vs) H) : FnG P w K mg base CX0 (k + 1) f fd ps sp := by
  obtain ⟨oc, od, kV, doc, pm, an, cdv, ct, osl, rfl, lk, hcd⟩ := F.ex
  refine fn_ofG lk hcd S len fun A outer s H vs Q E hr hg hsp => ?_
  obtain ⟨t, h, q⟩ := hbody cdv A outer s H vs Q E hr hg hsp
  exact ⟨t, h.nox, q⟩
theorem okGX {P : Program} {w : World} {K : PySem.W.Frag} {mg : Str → Option Value} {base : Heap} {x qual : Str} {st : Stmt} {f : Addr} {fd : FuncData} {N ps : List Str} {k : Nat} {sp : Sp} (F : L2.Fun K x qual st f fd) (S : FnScope N ps (defScope st)) (len : ∀ vs H Q E, sp vs H Q E → vs.length = ps.length)
    (hbody : ∀ (cdv : Value) (A : Around) (outer : List Env) (s : Shared) (H : Hp) (vs : List V) (Q : VK) (E : XK), Room k (A.deeper (envOfC qual (defScope st) s.heap.objs.size f cdv)) → GdB A base → sp vs H Q E →
      ∃ t, PSs (cxOf (L2.CX P w) P w K mg base N qual (defScope st) f cdv A outer s H E) (defBody st) t ∧ t { nx := fun _ H' => Q .non H', rt := Q } (start N vs) H) : FnG P w K mg base (L2.CX P w) (k + 1) f fd ps sp := by
  obtain ⟨oc, od, kV, doc, pm, an, cdv, ct, osl, rfl, lk, hcd⟩ := F.ex
  exact fn_ofG lk hcd S len fun A outer s H vs Q E hr hg hsp => hbody cdv A outer s H vs Q E hr hg hsp
section
variable {X : Cx} {CX : CXT} {k : Nat} {f C : Addr} {fd : FuncData} {ps : List Str} {sp : Sp} {dvs : List V} {ds : List Value} {E : XK} {x m : Str} {p pos apos : Pos} {e o : Expr} {es : List Expr} {ta : TE} {t : TA}
theorem run_fnG {pins : List (Addr × Obj)} {σ : L2.St} {H : Hp} {s : Shared} {Q : VK} {us : List Value} {vs : List V} (F : FnG X.prog X.w X.K X.mg X.base CX k f fd ps sp) (hr : Room k X.A) (hgd : GdB X.A X.base) (hb : Binds X.K fd ps ds) (hd : Vals dvs ds) (hx : Passes CX X E)
    (I : Inv X pins σ H s) (r : Vals vs us) (h : sp (vs ++ dvs) H Q E) : wpAny (model X.prog X.w) X.A (call (.ref f) us) (EP X pins σ Q) X.xe s := by
  have r2 : Vals (vs ++ dvs) (us ++ ds) := r.append hd
  have hl : (us ++ ds).length = ps.length := by rw [← r2.length]; exact F.len _ _ _ _ h
  refine wpAny_call (codeAny_mono (F.run X.A X.stack s H ⟨us, []⟩ (us ++ ds) (vs ++ dvs) Q E hr hgd I.env0 (hb s us I.kIn hl) r2 h) fun r s' hq => ?_)
  cases r with
  | error e => exact hx pins σ H s e s' I hq
  | ok fl =>
    cases fl with
    | ret u => exact I.after hq
    | next => exact False.elim hq
    | brk => exact False.elim hq
    | cont => exact False.elim hq
theorem pe_callG (F : FnG X.prog X.w X.K X.mg X.base CX k f fd ps sp) (hr : Room k X.A) (hgd : GdB X.A X.base) (hg : Gl X x) (hm : X.mg x = some (.ref f)) (hk : PySem.W.keepIn X.K (.ref f) = true) (hb : Binds X.K fd ps ds) (hd : Vals dvs ds) (hx : Passes CX X E)
    (ha : PA X (e :: es) t) (hdb : (x == ("__debug__" : Str)) = false := by decide) (he : starEach (e :: es) X.env = (false, eval e X.env) :: starEach es X.env := by rfl) (hpl : (backTo pos (starEach es X.env)).any (·.1) = false := by rfl) :
    PE X (.Call (.Name x p) (e :: es) [] pos) (tCall sp dvs E t) := by
  refine ⟨fun pins s σ H Q I h => ?_⟩
  refine wpAny_Call_Name_kw (ld_glob I hg hm ?_ hdb)
  refine PySem.W.callWith_K (h₀ := X.base) I.ok.mod.kin hk (thn (ha.run pos pins s σ H _ I h) fun us s1 ⟨vs, H1, I1, r, q⟩ => ⟨I1.kIn, ?_⟩) he hpl
  exact run_fnG F hr hgd hb hd hx I1 r q
/-! data with dicts -/
def kD : Key → PyData
  | .inl i => .int i
  | .inr x => .str x
mutual
inductive Dq (K : PySem.W.Frag) (H : Hp) : V → PyData → Prop
  | non : Dq K H .non .none
  | bl (b : Bool) : Dq K H (.bl b) (.bool b)
  | int (i : Int) : Dq K H (.int i) (.int i)
  | str (x : Str) : Dq K H (.str x) (.str x)
  | lst {a : Addr} {xs : List V} {ds : List PyData} (h : SqL K H a xs) (g : DqAll K H xs ds) : Dq K H (.ref a) (.list ds)
  | tup {a : Addr} {xs : List V} {ds : List PyData} (h : SqT K H a xs) (g : DqAll K H xs ds) : Dq K H (.ref a) (.tuple ds)
  | dct {a : Addr} {kvs : List (Key × V)} {ds : List (PyData × PyData)} (h : H a = some (.dK kvs)) (g : DqKv K H kvs ds) : Dq K H (.ref a) (.dict ds)
inductive DqAll (K : PySem.W.Frag) (H : Hp) : List V → List PyData → Prop
  | nil : DqAll K H [] []
  | cons {v : V} {vs : List V} {d : PyData} {ds : List PyData} (h : Dq K H v d) (g : DqAll K H vs ds) : DqAll K H (v :: vs) (d :: ds)
inductive DqKv (K : PySem.W.Frag) (H : Hp) : List (Key × V) → List (PyData × PyData) → Prop
  | nil : DqKv K H [] []
  | cons {k : Key} {v : V} {r : List (Key × V)} {d : PyData} {ds : List (PyData × PyData)} (h : Dq K H v d) (g : DqKv K H r ds) : DqKv K H ((k, v) :: r) ((kD k, d) :: ds)
end
theorem notMods {h h' : Heap} (hm : ∃ mm, h.Ns sysModules mm) (k : ∀ b o, h.get? b = some o → h'.get? b = some o) {a : Addr} {o : Obj} (e : h'.get? a = some o) (n : ∀ es ep, o.data ≠ .dict es ep) : ¬ sysModules = a := fun z => by
  obtain ⟨mm, o', es, ep, e', d, _⟩ := hm
  rw [← z, k _ _ e'] at e
  cases e
  exact n _ _ d
section
variable {pins : List (Addr × Obj)} {σ : L2.St} {H : Hp} {s : Shared}
mutual
theorem Dq.reads (I : Inv X pins σ H s) (hm : ∃ mm, X.base.Ns sysModules mm) : ∀ (d : PyData) (v : V) (u : Value), Dq X.K H v d → RelV v u → ∃ as, Reads s.heap u d as ∧ sysModules ∉ as
  | .none, _, _, h, r => by
    cases h; cases r
    exact ⟨_, Reads.none, by simp⟩
  | .bool b, _, _, h, r => by
    cases h; cases r
    exact ⟨_, Reads.bool b, by simp⟩
  | .int i, _, _, h, r => by
    cases h
    obtain ⟨t, rfl⟩ := r
    exact ⟨_, Reads.int i t, by simp⟩
  | .str x, _, _, h, r => by
    cases h
    obtain ⟨t, rfl⟩ := r
    exact ⟨_, Reads.str x t, by simp⟩
  | .list ds, _, _, h, r => by
    cases h with
    | lst h1 h2 =>
      cases r
      obtain ⟨its, rv, ⟨o, n, ho, hc, _, hd⟩, _⟩ := I.list h1
      obtain ⟨as, q1, q2⟩ := DqAll.readsN I hm ds _ its h2 rv
      refine ⟨_, .list ho hc hd q1, fun z => ?_⟩
      rcases List.mem_cons.mp z with z | z
      · exact notMods hm I.bk ho (fun es ep e => by rw [hd] at e; cases e) z
      · exact q2 z
  | .tuple ds, _, _, h, r => by
    cases h with
    | tup h1 h2 =>
      cases r
      obtain ⟨its, rv, ⟨o, ho, hc, n, hd⟩, _⟩ := I.tuple h1
      obtain ⟨as, q1, q2⟩ := DqAll.readsN I hm ds _ its h2 rv
      exact ⟨_, .tuple ho hc hd q1, q2⟩
  | .dict ds, _, _, h, r => by
    cases h with
    | dct h1 h2 =>
      cases r
      obtain ⟨_, ns, vs, rel, o, es, ep, ho, hx, hd, _, hp, _⟩ := dk_of I.hok h1
      obtain ⟨as, bs, q1, q2, q3, q4⟩ := DqKv.readsN I hm ds _ vs es.toList h2 rel hp
      refine ⟨_, .dict ho hx.1 hd q1 q2, fun z => ?_⟩
      rcases List.mem_append.mp z with z | z
      · rcases List.mem_cons.mp z with z | z
        · rw [← z] at ns
          exact absurd ns (by simp)
        · exact q3 z
      · exact q4 z
theorem DqAll.readsN (I : Inv X pins σ H s) (hm : ∃ mm, X.base.Ns sysModules mm) : ∀ (ds : List PyData) (vs : List V) (us : List Value), DqAll X.K H vs ds → Vals vs us → ∃ as, ReadsAll s.heap us ds as ∧ sysModules ∉ as
  | [], _, _, h, r => by
    cases h; cases r
    exact ⟨_, .nil, by simp⟩
  | d :: ds, _, _, h, r => by
    cases h with
    | cons h1 h2 =>
      cases r with
      | cons r1 r2 =>
        obtain ⟨as, q1, n1⟩ := Dq.reads I hm d _ _ h1 r1
        obtain ⟨bs, q2, n2⟩ := DqAll.readsN I hm ds _ _ h2 r2
        exact ⟨_, .cons q1 q2, fun z => (List.mem_append.mp z).elim n1 n2⟩
theorem DqKv.readsN (I : Inv X pins σ H s) (hm : ∃ mm, X.base.Ns sysModules mm) : ∀ (ds : List (PyData × PyData)) (kvs : List (Key × V)) (vs : List (Key × Value)) (es : List DictEntry), DqKv X.K H kvs ds → KV kvs vs → Pairs (mixKind X.prog X.w) es vs →
    ∃ as bs, ReadsAll s.heap (es.map (·.key)) (ds.map (·.1)) as ∧ ReadsAll s.heap (es.map (·.val)) (ds.map (·.2)) bs ∧ sysModules ∉ as ∧ sysModules ∉ bs
  | [], _, _, _, h, r, p => by
    cases h; cases r; cases p
    exact ⟨_, _, .nil, .nil, by simp, by simp⟩
  | d :: ds, _, _, _, h, r, p => by
    cases h with
    | @cons k v _ d _ h1 h2 =>
      cases r with
      | cons r1 r2 =>
        cases p with
        | @cons en _ _ _ p1 p2 p3 =>
          obtain ⟨as, q1, n1⟩ := Dq.reads I hm d _ _ h1 (p2 ▸ r1.2)
          obtain ⟨bs, cs, q2, q3, n2, n3⟩ := DqKv.readsN I hm ds _ _ _ h2 r2 p3
          have e1 : _ = _ := r1.1
          rw [← e1] at p1
          obtain ⟨zs, q4, n4⟩ : ∃ zs, Reads s.heap en.key (kD k) zs ∧ sysModules ∉ zs := by
            rcases keyIs_shape p1 with ⟨i, t, e2, e3⟩ | ⟨x, t, e2, e3⟩
            · subst e2
              exact ⟨[], by rw [e3]; exact Reads.int i t, by simp⟩
            · subst e2
              exact ⟨[], by rw [e3]; exact Reads.str x t, by simp⟩
          exact ⟨_, _, .cons q4 q2, .cons q1 q3, fun z => (List.mem_append.mp z).elim n4 n2, fun z => (List.mem_append.mp z).elim n1 n3⟩
end
end
/-- repr of data -/
theorem call_reprD (hgd : GdB X.A X.base) (hu : X.A.units + 64 < cLine) : CallR X (.builtin "repr") (fun xs H Q => ∃ (x : V) (dt : PyData), xs = [x] ∧ Dq X.K H x dt ∧ dt.showable = true ∧ dt.depth ≤ 60 ∧ dt.shown.length ≤ sizeLine ∧ Q (.str dt.shown) H) := by
  intro pins s σ H xs us Q I r h
  obtain ⟨x, dt, rfl, hD, h1, h3, h4, q⟩ := h
  obtain ⟨u, rfl, ru⟩ := vals1 r
  obtain ⟨as, hr, hn⟩ := Dq.reads I hgd.2 dt x u hD ru
  cases hD with
  | non =>
    cases (show u = Value.none from ru)
    exact PySem.P.repr_of_none ⟨.str _, H, I.tok _, ⟨_, rfl⟩, q⟩
  | bl b =>
    cases (show u = Value.bool b from ru)
    exact PySem.P.repr_of_bool ⟨.str _, H, I.tok _, ⟨_, rfl⟩, q⟩
  | int i =>
    obtain ⟨t, rfl⟩ := ru
    exact PySem.P.repr_of_int (of_decide_eq_true h1) ⟨.str _, H, I.tok _, ⟨_, rfl⟩, q⟩
  | str z =>
    obtain ⟨t, rfl⟩ := ru
    exact PySem.P.repr_of_str ⟨.str _, H, I.tok _, ⟨_, rfl⟩, q⟩ h4
  | lst _ _ =>
    cases ru
    exact repr_of_reads' hr h1 (fun _ => hn) hgd.1 (by omega) (fun _ _ e => e) (fun h' u tk hk => ⟨.str _, H, (I.kept (t' := tk) hk), ⟨_, rfl⟩, q⟩) h4
  | tup _ _ =>
    cases ru
    exact repr_of_reads' hr h1 (fun _ => hn) hgd.1 (by omega) (fun _ _ e => e) (fun h' u tk hk => ⟨.str _, H, (I.kept (t' := tk) hk), ⟨_, rfl⟩, q⟩) h4
  | dct _ _ =>
    cases ru
    exact repr_of_reads' hr h1 (fun _ => hn) hgd.1 (by omega) (fun _ _ e => e) (fun h' u tk hk => ⟨.str _, H, (I.kept (t' := tk) hk), ⟨_, rfl⟩, q⟩) h4
end
end
/-! ### the law is called: no guard is up -/
section
open PySem PySem.Spec PyProof.Rows L2
theorem law_callG {P : Program} {w : World} {K : PySem.W.Frag} {mg mb : Str → Option Value} {CX : CXT} {k : Nat} {fa a : Addr} {fd : FuncData} {x : Str} {sp : Sp} {s₁ : Shared} {vs : List Value} {ns : List Int}
    (KX : K.In s₁.heap) (hns : s₁.heap.Ns mainGlobals mg) (hb : s₁.heap.Ns builtinsNs mb) (hbb : ∀ x : Str, x ≠ "__name__" → mb x = bootBuiltins x) (hlim : s₁.heap.NoLimit) (hmods : ∃ mm, s₁.heap.Ns sysModules mm) (hg : s₁.gens = #[])
    (ha : s₁.heap.get? a = some { cls := .type "list", data := .seq vs.toArray }) (hi : IntsAre vs ns) (hl : ns.length ≤ sizeLine) (hr : Room k callerA)
    (F : ∀ base : Heap, K.In base → base.Ns mainGlobals mg → FnG P w K mg base CX k fa fd [x] sp) (hbind : ∀ (s : Shared) (u : Value), BindsTo s fd ⟨[u], []⟩ [(x, u)])
    (hsp : ∀ H : Hp, Only H → SqL K H a (ns.map V.int) → sp [.ref a] H (fun v _ => v = .bl true) fun _ _ _ => False)
    (hCX : ∀ H e s', CX [] H s₁ (fun _ _ _ => False) e s' → False) :
    codeAny (model P w) callerA (.call (.ref fa) ⟨[.ref a], []⟩) (fun r s' => r = .ok (.ret (.bool true)) ∧ OldK s₁.heap s'.heap ∧ s'.os = s₁.os ∧ AllBare s'.gens) s₁ := by
  have rv := vals_ints hi
  have lenV := hi.length
  -- from an abstract heap in which nothing but the script may be tracked
  have core : ∀ H : Hp, Only H → SqL K H a (ns.map V.int) → HOk P w H s₁.heap → (∀ b, H b ≠ none → b = a) → (H a ≠ none → K.lookup a = none) →
      codeAny (model P w) callerA (.call (.ref fa) ⟨[.ref a], []⟩) (fun r s' => r = .ok (.ret (.bool true)) ∧ OldK s₁.heap s'.heap ∧ s'.os = s₁.os ∧ AllBare s'.gens) s₁ := by
    intro H hO hS hok hA hK
    have base_of : ∀ {b : Addr} {o : Obj}, s₁.heap.get? b = some o → H b = none → (hidT s₁.heap H).get? b = some o := fun e n => hidT_get e n
    have noA : ∀ {b : Addr} {o : Obj} {es : Array DictEntry} {ep : Nat}, s₁.heap.get? b = some o → o.data = .dict es ep → H b = none := fun {b o es ep} e d => by
      cases q : H b with
      | none => rfl
      | some u =>
        have e' : b = a := hA b (by rw [q]; simp)
        subst e'
        rw [ha] at e; cases e
        have d' : Data.seq vs.toArray _ = Data.dict es ep := d
        cases d'
    have nsK : ∀ {b : Addr} {m : Str → Option Value}, s₁.heap.Ns b m → (hidT s₁.heap H).Ns b m := fun {b m} ⟨o, es, ep, e, d, r⟩ => ⟨o, es, ep, base_of e (noA e d), d, r⟩
    have hKb : K.In (hidT s₁.heap H) := fun b o e => base_of (KX b o e) (by
      cases q : H b with
      | none => rfl
      | some u =>
        have e' : b = a := hA b (by rw [q]; simp)
        subst e'
        rw [hK (by rw [q]; simp)] at e; cases e)
    have hM : Mod K mg (hidT s₁.heap H) := ⟨hKb, nsK hns, ⟨mb, nsK hb, hbb⟩, let ⟨mc, h1, h2⟩ := hlim; ⟨mc, nsK h1, h2⟩⟩
    have e0 : Env0 P w K mg (hidT s₁.heap H) callerA [] s₁ H := ⟨rfl, hM, fun b o e => of_hidT e, Nat.le_of_eq (hidT_size _ _), trivial, fun b hb => absurd (show b ∈ ([] : List Addr) from hb) (by simp), hok, .of_eq hg⟩
    refine codeAny_mono ((F _ hKb (nsK hns)).run callerA [] s₁ H ⟨[.ref a], []⟩ [.ref a] [.ref a] _ _ hr ⟨rfl, let ⟨mm, q⟩ := hmods; ⟨mm, nsK q⟩⟩ e0 (hbind s₁ (.ref a)) (.cons rfl .nil) (hsp H hO hS)) fun r s' h => ?_
    cases r with
    | error e => exact (hCX H e s' h).elim
    | ok fl =>
      cases fl with
      | next => exact False.elim h
      | brk => exact False.elim h
      | cont => exact False.elim h
      | ret u =>
        obtain ⟨v, H', os, bare, un, hok', r', q⟩ := h
        have q' : v = .bl true := q
        subst q'
        obtain rfl : u = Value.bool true := r'
        refine ⟨rfl, OldK.of_keep fun b o e => ?_, os, bare⟩
        cases q : H b with
        | none => exact un.keep b o e q (by intro z; exact absurd (show b ∈ ([] : List Addr) from z) (by simp)) (by simp)
        | some u =>
          rcases hO b with z | ⟨ob, xs, z⟩
          · rw [q] at z; cases z
          · have z2 := un.frzs b ob _ z
            obtain ⟨e1, _⟩ := hok b _ z
            obtain ⟨e2, _⟩ := hok' b _ z2
            rw [e] at e1; cases e1
            exact e2
  cases hk : K.lookup a with
  | some o =>
    -- the script is one of the module's own objects
    have e := KX a o hk
    rw [ha] at e
    cases e
    refine core (fun _ => none) (fun _ => .inl rfl) (.inr ⟨_, vs.toArray, _, hk, rfl, rfl, rfl, by rw [List.size_toArray, lenV]; exact hl, by simpa using rv⟩) (fun b u z => by have z' : (none : Option HO) = some u := z; cases z') (fun b z => absurd rfl z) fun z => absurd rfl z
  | none =>
    refine core (fun b => if b = a then some (.frz { cls := .type "list", data := .seq vs.toArray } (.lst (ns.map V.int))) else none) (fun b => ?_) (.inl (.inr ⟨{ cls := .type "list", data := .seq vs.toArray }, if_pos rfl⟩)) (fun b u z => ?_) (fun b z => ?_) fun _ => hk
    · by_cases hb : b = a
      · exact .inr ⟨_, _, if_pos hb⟩
      · exact .inl (if_neg hb)
    · by_cases hb : b = a
      · have z' := (if_pos hb).symm.trans z
        cases z'
        subst hb
        exact ⟨ha, by rw [List.length_map]; exact hl, vs, _, rv, ha⟩
      · have z' := (if_neg hb).symm.trans z
        cases z'
    · by_cases hb : b = a
      · exact hb
      · exact absurd (if_neg hb) z
theorem walk_ofBG {l : PySem.W.OpenLaw} {n k : Nat} {q : Program} {loose : List Str} {XP : (Str → Option Value) → Heap → Prop} {YP : World → Heap → Prop} {d : DefRec} {K : Params → PySem.W.Frag} {CX : World → CXT} {sp : World → Sp} {x : Str}
    (hn : l.most = some n) (hn2 : n ≤ sizeLine) (hdf : d.params.defaults = []) (hi : importsNone q = true) (hr : Room k callerA)
    (hY : ∀ (w : World) (h : Heap), YP w h → (K w.params).In h)
    (F : ∀ (w : World) (mg : Str → Option Value) (fa : Addr) (h : Heap), (K w.params).In h → h.Ns mainGlobals mg → mg d.name = some (.ref fa) →
      ∃ fd : FuncData, (∀ (s : Shared) (u : Value), BindsTo s fd ⟨[u], []⟩ [(x, u)]) ∧
        ∀ base : Heap, (K w.params).In base → base.Ns mainGlobals mg → FnG l.prog w (K w.params) mg base (CX w) k fa fd [x] (sp w))
    (hsp : ∀ (w : World) (H : Hp) (a : Addr) (ns : List Int), ns.length ≤ n → (∀ z ∈ ns, Builtin.Int.intBits z ≤ 1048576) → Only H → SqL (K w.params) H a (ns.map V.int) → sp w [.ref a] H (fun v _ => v = .bl true) fun _ _ _ => False)
    (hCX : ∀ (w : World) (H : Hp) (s : Shared) (e : Value) (s' : Shared), CX w [] H s (fun _ _ _ => False) e s' → False) :
    PySem.W.WalkO q loose XP YP l.row.toRowW d [] (fun f vs => PySem.call f vs) := by
  refine Att.attach_callB hn hdf fun w s₀ s₁ mg mb fa o pm cd doc a vs ns G Y ho hd hcd hmg hobj hints hlen hbits hg => ?_
  have KX := hY w _ Y
  obtain ⟨fd, hb, hF⟩ := F w mg fa _ KX G.T.g hmg
  exact law_callG KX G.T.g G.T.b G.T.builtins G.T.nolimit (let ⟨mm, q, _⟩ := (G.T.seer hi).mods; ⟨mm, q⟩) hg hobj hints (Nat.le_trans hlen hn2) hr hF hb (fun H hO hS => hsp w H a ns hlen hbits hO hS) fun H e s' => hCX w H s₁ e s'
end
/-! ### what is never reached -/
section
variable {X : Cx}
theorem ps_no {st : Stmt} : PS X st (fun _ _ _ => False) := ⟨fun _ _ _ _ _ _ h => h.elim⟩
theorem xfc {P : Program} {K : PySem.W.Frag} {C fI : Addr} {st : Stmt} {q : Str} {ps : List Str} {fs : List (Str × Sum Nat Str)} (T : ErrC P K C fI st q ps fs) : XfC K C := ⟨T.ga, T.gg, T.exC, T.hdC⟩
end
theorem for_nil {K : PySem.W.Frag} {a : Addr} {g : TG} {tb : TS} {D : Ends} {σ : L2.St} {H : Hp} (hl : SqL K H a []) (hd : D.nx σ H) :
    ∃ W : Nat → Nat → L2.St → Hp → Prop, (∃ m, W 0 m σ H) ∧ ∀ i m σ H, W i m σ H →
      ((Itl K a).stop i H ∧ D.nx σ H) ∨ ((Itl K a).go i H ∧ ∃ N : L2.St → Hp → Prop, (∀ σ' H', N σ' H' → ∃ m', m' < m ∧ W (i + 1) m' σ' H') ∧ ∀ x H', (Itl K a).yld i H x H' → g x σ H' fun σ2 H2 => tb { D with nx := N, ct := N, bk := D.nx } σ2 H2) :=
  for_list (xs := []) (fun _ σ' H' => σ' = σ ∧ H' = H) ⟨rfl, rfl⟩ (fun i σ' H' _ p => p.2 ▸ hl) (fun i x σ' H' e _ => by simp at e) (fun σ' H' p => by rw [p.1, p.2]; exact hd)
/-! ### o.m(e, .., k = v, ..), with a wish by the slots -/
section
open PySem PySem.Spec PyProof.Rows
variable {X : Cx} {CX : CXT} {k n : Nat} {f C : Addr} {fd : FuncData} {ps ks : List Str} {sp : Sp} {E : L2.St → XK} {m : Str} {pos apos : Pos} {e o : Expr} {es : List Expr} {kws : List Keyword} {ta : TE} {t tk : TA} {g : List Value → List Value → List Value} {gV : List V → List V → List V}
def tMethK (C : Addr) (m : Str) (n j : Nat) (sp : Sp) (gV : List V → List V → List V) (E : L2.St → XK) (to : TE) (ta tk : TA) : TE := fun σ H Q => to σ H fun x H1 => ∃ a dx fs, x = .ref a ∧ H1 a = some (.ins C dx fs) ∧ fs.lookup m = none ∧ ta σ H1 fun vs H2 => tk σ H2 fun zs H3 => vs.length = n ∧ zs.length = j ∧ sp (gV (.ref a :: vs) zs) H3 Q (E σ)
theorem run_kw {pins : List (Addr × Obj)} {σ : L2.St} {H : Hp} {s : Shared} {Q : VK} {us ws : List Value} {vs zs : List V} (F : FnOk X.prog X.w X.K X.mg X.base CX k f fd ps sp) (hr : Room k X.A) (hb : KBn X.K fd ps n ks g gV) (hx : PassesAt CX X σ (E σ))
    (I : Inv X pins σ H s) (r : Vals vs us) (rz : Vals zs ws) (l1 : vs.length = n) (l2 : zs.length = ks.length) (h : sp (gV vs zs) H Q (E σ)) : wpAny (model X.prog X.w) X.A (call (.ref f) us (ks.zip ws)) (EP X pins σ Q) X.xe s := by
  have bt := hb.to s us ws I.kIn (r.length.symm.trans l1) (rz.length.symm.trans l2)
  refine wpAny_call (codeAny_mono (F.run X.A X.stack s H ⟨us, ks.zip ws⟩ (g us ws) (gV vs zs) Q (E σ) hr I.env0 bt (hb.rel r rz) h) fun q s' hq => ?_)
  match q, hq with
  | .error e, hq => exact hx pins H s e s' I hq
  | .ok (.ret u), hq => exact I.after hq
  | .ok .next, hq => exact hq.elim
  | .ok .brk, hq => exact hq.elim
  | .ok .cont, hq => exact hq.elim
theorem pe_methK {pl : Sem Bool} (ho : PE X o ta) (c : Cls X.K C) (hm : Meth X.K C m f) (F : FnOk X.prog X.w X.K X.mg X.base CX k f fd ps sp) (hr : Room k X.A) (hb : KBn X.K fd ps (n + 1) ks g gV) (hx : ∀ σ, PassesAt CX X σ (E σ)) (ha : PA X (e :: es) t) (hkw : PK X kws tk)
    (hall : (backToKw pos (keywordEach kws X.env)).all (·.1.isSome) = true := by rfl) (hks : (backToKw pos (keywordEach kws X.env)).filterMap (·.1) = ks := by rfl)
    (hst : starEach (e :: es) X.env = (false, eval e X.env) :: starEach es X.env := by rfl) (hpl : ((backTo pos (starEach (e :: es) X.env)).any (·.1) || (backToKw pos (keywordEach kws X.env)).any (·.1.isNone)) = false := by rfl)
    (ht : eval (.Call (.Attribute o m apos) (e :: es) kws pos) X.env = (do
      let ov ← eval o X.env
      standAt apos.atName
      let (f, first) ← holding [ov] (getMethod ov m pl)
      callWith pos f first (backTo pos (starEach (e :: es) X.env)) (backToKw pos (keywordEach kws X.env))) := by rfl) :
    PE X (.Call (.Attribute o m apos) (e :: es) kws pos) (tMethK C m n ks.length sp gV E ta t tk) := by
  refine ⟨fun pins s σ H Q I h => ?_⟩
  refine PySem.W.methodCall_KW (pl := pl) (thn (ho.run pins s σ H _ I h) fun u s1 ⟨x, H1, I1, rx, a, dx, fs, ex, ea, l, q⟩ => ?_) ht
  subst ex
  cases (show u = Value.ref a from rx)
  refine getmeth_ok I1 ea c hm l (PySem.W.callWith_KW (first := [.ref a]) (h₀ := X.base) I.ok.mod.kin hm.kp hall (thn (ha.run pos pins s1 σ H1 _ I1 q) fun us s2 ⟨vs, H2, I2, r, q2⟩ => ?_) hpl hst)
  refine thn (hkw.run pos pins s2 σ H2 _ I2 q2) fun ws s3 ⟨zs, H3, I3, rz, l1, l2, q3⟩ => ⟨I3.kIn, ?_⟩
  rw [hks]
  exact run_kw (us := .ref a :: us) (vs := .ref a :: vs) F hr hb (hx σ) I3 (.cons rfl r) rz (congrArg Nat.succ l1) l2 q3
end
/-! ### defs called while an exception is handled: its object stands aside -/
section
open PySem PySem.Spec PyProof.Rows
structure FnP (P : Program) (w : World) (K : PySem.W.Frag) (mg : Str → Option Value) (base : Heap) (CX : CXT) (k : Nat) (f : Addr) (fd : FuncData) (ps : List Str) (sp : Sp) : Prop where
  len : ∀ vs H Q E, sp vs H Q E → vs.length = ps.length
  run : ∀ (A : Around) (outer : List Env) (s : Shared) (H : Hp) (args : Args) (us : List Value) (vs : List V) (Q : VK) (E : XK) (p : Addr × Obj), L2H.RoomH k A → L2H.PinOk outer H s p → Env0 P w K mg base A outer s H → BindsTo s fd args (ps.zip us) → Vals vs us → sp vs H Q E →
    codeAny (model P w) A (.call (.ref f) args) (CR CX outer P w H s Q E) s
theorem fn_ofP {CX : CXT} {P : Program} {w : World} {K : PySem.W.Frag} {mg : Str → Option Value} {base : Heap} {k : Nat} {f : Addr} {name qual : Str} {params : Arguments} {body : List Stmt} {scope : Scope} {dV kV doc pm cdv ct oc : Value} {an od : Option Addr}
    {osl : Array (Option Value)} {N ps : List Str} {sp : Sp} (lk : K.lookup f = some ⟨oc, od, .func (PySem.W.fnOf name qual params body scope dV kV doc pm an cdv ct), osl⟩) (hcd : PySem.W.codeIn K cdv qual = true) (S : FnScope N ps scope)
    (len : ∀ vs H Q E, sp vs H Q E → vs.length = ps.length)
    (hbody : ∀ (A : Around) (outer : List Env) (s : Shared) (H : Hp) (vs : List V) (Q : VK) (E : XK) (p : Addr × Obj), L2H.RoomH k (A.deeper (envOfC qual scope s.heap.objs.size f cdv)) → sp vs H Q E →
      ∃ t, PSs (L2H.cxH CX P w K mg base N qual scope f cdv A outer s H E p) body t ∧ t { nx := fun _ H' => Q .non H', rt := Q } (L2.start N vs) H) :
    FnP P w K mg base CX (k + 1) f (PySem.W.fnOf name qual params body scope dV kV doc pm an cdv ct) ps sp := by
  refine ⟨len, fun A outer s H args us vs Q E p hr hp e0 hb r hsp => ?_⟩
  have kk : ∀ b o, base.get? b = some o → s.heap.get? b = some o := fun b o e => (e0.bs b o e).1
  have KX : K.In s.heap := e0.mod.kin.keeps kk
  have hk2 : ∀ y ∈ ps.zip us, scope.names.lookup y.1 = some .local ∨ (scope.names.lookup y.1 = some .cell ∧ ((cellsFrom (s.heap.objs.size + 1) scope.names []).lookup y.1).isSome = true) := fun y hy =>
    (S.par y.1 (List.of_mem_zip (a := y.1) (b := y.2) hy).1).imp id fun q => ⟨q, PySem.W.cellsFrom_some _ _ _ (.inl q)⟩
  refine codeAny_call_function hr.depth (KX _ _ lk) rfl S.co S.gen rfl (PySem.W.codeRec_of KX hcd) (hb _ _ _ _ (wpAny_newFunctionEnv_cells S.kind hk2 fun env he s1 x => ?_))
  subst he
  refine ⟨(e0.mod.nolimit.keeps kk).keeps x.toInCall.keep, codeAny_func ?_⟩
  obtain ⟨t, ht, hq⟩ := hbody A outer s H vs Q E p (hr.deeper _) hsp
  refine wpAny_mono (ht.run [] s1 _ H _ (L2H.inv_startH S hp e0 (len _ _ _ _ hsp) r x) hq) (fun fl s' hs => ?_) fun e s' hs => hs
  match fl, hs with
  | .ret u, ⟨v, σ', H', J, rv, q⟩ => exact ⟨v, H', J.os, J.bare, J.base, J.hok, rv, q⟩
  | .next, ⟨σ', H', J, q⟩ => exact ⟨.non, H', J.os, J.bare, J.base, J.hok, rfl, q⟩
  | .brk, ⟨_, _, _, q⟩ => exact q.elim
  | .cont, ⟨_, _, _, q⟩ => exact q.elim
theorem okP {P : Program} {w : World} {K : PySem.W.Frag} {mg : Str → Option Value} {base : Heap} {x qual : Str} {st : Stmt} {f : Addr} {fd : FuncData} {N ps : List Str} {k : Nat} {sp : Sp} (F : L2.Fun K x qual st f fd) (S : FnScope N ps (defScope st)) (len : ∀ vs H Q E, sp vs H Q E → vs.length = ps.length)
    (hbody : ∀ (cdv : Value) (A : Around) (outer : List Env) (s : Shared) (H : Hp) (vs : List V) (Q : VK) (E : XK) (p : Addr × Obj), L2H.RoomH k (A.deeper (envOfC qual (defScope st) s.heap.objs.size f cdv)) → sp vs H Q E →
      ∃ t, PSs (L2H.cxH CX0 P w K mg base N qual (defScope st) f cdv A outer s H E p).nox (defBody st) t ∧ t { nx := fun _ H' => Q .non H', rt := Q } (L2.start N vs) H) : FnP P w K mg base CX0 (k + 1) f fd ps sp := by
  obtain ⟨oc, od, kV, doc, pm, an, cdv, ct, osl, rfl, lk, hcd⟩ := F.ex
  refine fn_ofP lk hcd S len fun A outer s H vs Q E p hr hsp => ?_
  obtain ⟨t, h, q⟩ := hbody cdv A outer s H vs Q E p hr hsp
  exact ⟨t, h.nox, q⟩
section
variable {X : Cx} {CX : CXT} {k : Nat} {C p g a dx : Addr} {fs : List (Str × V)} {f : Str} {fd : FuncData} {ps : List Str} {sp : Sp} {dvs : List V} {ds : List Value} {E : XK} {e : Expr} {pos : Pos} {ta : TE}
/-- the exception that is handled stands aside here -/
def Aside (X : Cx) : Prop := ∃ q : Addr × Obj, q ∈ X.pn
theorem Aside.pin {pins : List (Addr × Obj)} {σ : L2.St} {H : Hp} {s : Shared} (h : Aside X) (I : Inv X pins σ H s) : ∃ q, L2H.PinOk X.stack H s q := by
  obtain ⟨q, hq⟩ := h
  obtain ⟨p1, p2, p3, p4, p5⟩ := I.pin q (List.mem_append_left _ hq)
  exact ⟨q, p1, p2, fun hm => (List.mem_cons.mp (I.stkSub q.1 hm)).elim p3 p4, p5⟩
/-- e.f, a property, there -/
theorem pe_propP (he : PE X e ta) (c : Cls X.K C) (hp : PropOf X.K C f p g) (F : FnP X.prog X.w X.K X.mg X.base CX0 k g fd ps sp) (hr : L2H.RoomH (k + 1) X.A) (hs : Aside X) (hb : Binds X.K fd ps ds) (hd : Vals dvs ds)
    (hab : attributeBase e f X.env (eval e X.env) = eval e X.env) : PE X (.Attribute e f pos) (tProp C sp dvs E0 ta) := by
  refine ⟨fun pins s σ H Q I h => ?_⟩
  refine attr_of hab (thn (he.run pins s σ H _ I h) fun u s1 ⟨x, H1, I1, rx, a, dx, fs, ex, ea, q⟩ => ?_)
  subst ex
  cases (show u = Value.ref a from rx)
  obtain ⟨mA, O, _, _, _, _⟩ := ins_get I1.hok ea
  obtain ⟨od, J, _⟩ := O.look
  obtain ⟨rest, hrec⟩ := hp.rec_
  have I2 := I1.tok (s1.toks + 1)
  obtain ⟨pq, hpq⟩ := hs.pin I2
  have hl : ([Value.ref a] ++ ds).length = ps.length := by
    have l1 := F.len _ _ _ _ q
    have l2 := hd.length
    simp only [List.length_append, List.length_cons, List.length_nil] at l1 ⊢
    omega
  have hc : (PySem.W.clsIn X.K C).isSome = true := by
    obtain ⟨cd, hc, _⟩ := PySem.W.any_some c.hd
    rw [hc]; rfl
  have pg := PySem.W.plainGet_of (c.get f)
  refine PySem.W.get_bind I1.kIn J pg.1 (PySem.W.findObj_data hc hp.at_ hp.get hp.tak) pg.2 (wpAny_call (PySem.W.prop_get (s := { s1 with toks := s1.toks + 1 }) I1.kIn hrec ?_))
  refine codeAny_mono (F.run X.A.in1 X.stack { s1 with toks := s1.toks + 1 } H1 ⟨[.ref a], []⟩ (.ref a :: ds) (.ref a :: dvs) Q _ pq ⟨by have := hr.dp; show X.A.depth + 3 * k + 5 < _; omega, by have := hr.un; show X.A.units + 1 + 16 * k + 200 < _; omega⟩ hpq I2.env0.in1 (hb _ [.ref a] I2.kIn hl) (.cons rfl hd) q) fun r s' hq => ?_
  match r, hq with
  | .error er, hq => exact hq.elim
  | .ok (.ret u), hq =>
    obtain ⟨v, H', I3, rv, q3⟩ := I2.after hq
    show wpAny _ _ (handedOut u) _ _ _
    rw [PySem.W.handedOut_of (handed_of rv)]
    exact wpAny_pure ⟨v, H', I3, rv, q3⟩
  | .ok .next, hq => exact hq.elim
  | .ok .brk, hq => exact hq.elim
  | .ok .cont, hq => exact hq.elim
end
end
/-! ### sets of texts -/
section
open PySem PySem.Spec PyProof.Rows
def keyT (e : Int × Value) : Str := match e.2 with
  | .str k _ => k
  | _ => Str.empty
/-- a table with the texts l, each once -/
structure TsOk (w : World) (es : Array (Int × Value)) (t : SetTable) (l : List Str) : Prop where
  good : ∀ e ∈ es.toList, ∃ k u, e = (hashStr w k, Value.str k u)
  perm : (es.toList.map keyT).Perm l
  nd : l.Nodup
  few : es.size < scanBound
  fit : t.fits es.size = true
  ris : L2.Ris t.place.toList
  led : w.params.followText "set-order" = true ∨ t.led = true
def TSet (w : World) (h : Heap) (a : Addr) (l : List Str) : Prop := ∃ o es ep t, h.get? a = some o ∧ o.ExactSet ∧ o.data = .set es ep t ∧ TsOk w es t l
section
variable {P : Program} {w : World} {h h' : Heap} {a : Addr} {l : List Str} {es : Array (Int × Value)} {t : SetTable}
theorem TSet.at (R : TSet w h a l) (k : ∀ o, h.get? a = some o → h'.get? a = some o) : TSet w h' a l := by
  obtain ⟨o, es, ep, t, ho, r⟩ := R
  exact ⟨o, es, ep, t, k o ho, r⟩
theorem str_isS (k : Str) (u : Tok) : (PySem.strKind P w).is k (.str k u) = true := by
  show Value.isStrOf k (.str k u) = true
  simp [Value.isStrOf]
theorem TsOk.elems (T : TsOk w es t l) : ElemsOf (PySem.strKind P w) es.toList := fun e he => by
  obtain ⟨k, u, rfl⟩ := T.good e he
  exact ⟨⟨k, str_isS k u, rfl⟩, rfl⟩
theorem TsOk.size (T : TsOk w es t l) : es.size = l.length := by
  have := T.perm.length_eq
  rwa [List.length_map, Array.length_toList] at this
theorem TsOk.is (T : TsOk w es t l) {e : Int × Value} (he : e ∈ es.toList) (k : Str) : (PySem.strKind P w).is k e.2 = true ↔ keyT e = k := by
  obtain ⟨j, u, rfl⟩ := T.good e he
  constructor
  · intro q
    exact ((PySem.strKind P w).inj (.str j u) k j q (str_isS j u)).symm
  · rintro rfl
    exact str_isS j u
theorem TsOk.mem (T : TsOk w es t l) (k : Str) : k ∈ l ↔ ∃ e ∈ es.toList, (PySem.strKind P w).is k e.2 = true := by
  rw [← T.perm.mem_iff, List.mem_map]
  exact ⟨fun ⟨e, he, q⟩ => ⟨e, he, (T.is he k).2 q⟩, fun ⟨e, he, q⟩ => ⟨e, he, (T.is he k).1 q⟩⟩
theorem TSet.setOf (R : TSet w h a l) : h.SetOf (PySem.strKind P w) a (fun k => decide (k ∈ l)) l.length := by
  obtain ⟨o, es, ep, t, ho, hx, hd, T⟩ := R
  exact ⟨o, es, ep, t, ho, hx, hd, T.elems, fun k => by rw [decide_eq_true_eq]; exact T.mem k, T.few, T.fit, T.size⟩
theorem TsOk.relay (T : TsOk w es t l) : TsOk w (relayAll t es (SetTable.grown es.size)).1 (relayAll t es (SetTable.grown es.size)).2.1 l := by
  have pm := relayAll_perm t es (SetTable.grown es.size)
  have hs : (relayAll t es (SetTable.grown es.size)).1.size = es.size := by rw [← Array.length_toList, pm.length_eq, Array.length_toList]
  exact ⟨fun e he => T.good e (pm.mem_iff.mp he), (pm.map keyT).trans T.perm, T.nd, by rw [hs]; exact T.few, relayAll_fits t es _, L2.relayAll_ris t es _, T.led.imp id fun z => by rw [L2.relayAll_led]; exact z⟩
theorem TsOk.off (T : TsOk w es t l) : TsOk w es { t with plain := false } l := ⟨T.good, T.perm, T.nd, T.few, SetTable.fits_plain_off T.fit, T.ris, T.led⟩
theorem TsOk.lay (T : TsOk w es t l) {k : Str} (u : Tok) (hk : k ∉ l) (room : l.length + 1 < scanBound) : TsOk w (layNew t es (hashStr w k) (.str k u)).1 (layNew t es (hashStr w k) (.str k u)).2.1 (k :: l) := by
  have pm := layNew_perm t es (hashStr w k) (.str k u)
  rw [Array.toList_push] at pm
  have pc := pm.trans (List.perm_append_singleton _ _)
  have pk : _ = _ := (pc.map keyT).length_eq
  have hs : (layNew t es (hashStr w k) (.str k u)).1.size = l.length + 1 := by
    rw [← Array.length_toList, pc.length_eq, List.length_cons, Array.length_toList, T.size]
  refine ⟨fun e he => ?_, (pc.map keyT).trans (T.perm.cons _), List.nodup_cons.mpr ⟨hk, T.nd⟩, by rw [hs]; exact room, layNew_fits t es _ _, L2.layNew_ris t es _ _ T.ris, T.led.imp id fun z => by rw [L2.layNew_led]; exact z⟩
  rcases List.mem_cons.mp (pc.mem_iff.mp he) with z | z
  · exact ⟨k, u, z⟩
  · exact T.good e z
theorem TSet.new (w : World) (h : Heap) : TSet w (h.push { cls := .type "set", dict := none, data := .set #[] 0 (.fresh 0 0 (!w.params.followText "set-order")) }) h.objs.size [] := by
  refine ⟨_, #[], 0, _, Heap.get?_push_size _ rfl, ⟨rfl, rfl, rfl⟩, rfl, (fun e he => by simp at he), by simp, List.nodup_nil, by decide, by rfl, List.Pairwise.nil, ?_⟩
  show _ ∨ (!w.params.followText "set-order") = true
  cases w.params.followText "set-order" <;> simp
end
/-- with k -/
def addT (k : Str) (l : List Str) : List Str := if k ∈ l then l else k :: l
theorem addT_mem {k j : Str} {l : List Str} : j ∈ addT k l ↔ j = k ∨ j ∈ l := by
  unfold addT
  split
  · rename_i h
    exact ⟨.inr, fun z => z.elim (fun e => e ▸ h) id⟩
  · exact List.mem_cons
theorem addT_nd {k : Str} {l : List Str} (h : l.Nodup) : (addT k l).Nodup := by
  unfold addT
  split
  · exact h
  · rename_i q
    exact List.nodup_cons.mpr ⟨q, h⟩
theorem addT_len {k : Str} {l : List Str} : (addT k l).length ≤ l.length + 1 := by
  unfold addT
  split <;> simp
section
variable {P : Program} {w : World} {A : Around} {E : Value → Shared → Prop} {s : Shared} {a : Addr} {l : List Str}
theorem ts_tail {g : Bool → Sem Unit} (hg : ∀ (b : Bool) (z : Shared) (q : Unit → Shared → Prop), q () z → wpAny (model P w) A (g b) q E z) {o : Obj} {es es1 : Array (Int × Value)} {ep : Nat} {t t2 : SetTable} (ho : s.heap.get? a = some o) (hex : o.ExactSet) (hd : o.data = .set es ep t)
    (T : TsOk w es1 t2 l) {wd : Bool} {R : Option Bool → Shared → Prop} (hR : ∀ h', Heap.SameBut a s.heap h' → TSet w h' a l → R (some true) { s with heap := h' }) :
    wpAny (model P w) A (do
        storeSet a es1 t2
        if (!wd && t2.tooFull) = true then do
            g (relayAll t2 es1 (SetTable.grown es1.size)).2.2
            storeSet a (relayAll t2 es1 (SetTable.grown es1.size)).1 (relayAll t2 es1 (SetTable.grown es1.size)).2.1
            pure (some true)
          else pure (some true)) R E s := by
  have sb := Heap.SameBut.update s.heap a (Obj.putSet es1 t2)
  have ho1 := L2.store_at (es' := es1) (t' := t2) ho hd
  refine wpAny_bind (wpAny_storeSet_of ho hd ?_ (fits_of_scanBound T.few))
  split
  · have T2 := T.relay
    generalize relayAll t2 es1 (SetTable.grown es1.size) = Z at T2 ⊢
    obtain ⟨es2, t3, gv⟩ := Z
    dsimp only at T2 ⊢
    refine wpAny_bind (hg _ _ _ (wpAny_bind (wpAny_storeSet_of ho1 rfl ?_ (fits_of_scanBound T2.few))))
    exact wpAny_pure (hR _ (sb.trans (Heap.SameBut.update _ a _)) ⟨_, es2, _, t3, L2.store_at (es' := es2) (t' := t3) ho1 rfl, hex, rfl, T2⟩)
  · exact wpAny_pure (hR _ sb ⟨_, es1, _, t2, ho1, hex, rfl, T⟩)
theorem ts_addH {k : Str} {u : Tok} {Q : Bool → Shared → Prop} (R : TSet w s.heap a l) (room : l.length + 1 < scanBound) (hQ : ∀ h' b, Heap.SameBut a s.heap h' → TSet w h' a (addT k l) → Q b { s with heap := h' }) :
    wpAny (model P w) A (setAddHashed a (.str k u) ((PySem.strKind P w).hash k)) Q E s := by
  obtain ⟨o, es, ep, t, ho, hex, hd, T⟩ := R
  have hel : ElemsOf (PySem.strKind P w) es.toList := T.elems
  have hgw : ∀ (b : Bool) (z : Shared) (q : Unit → Shared → Prop), q () z → wpAny (model P w) A (match b with | true => rule "set.scan.the-table-gave-way" | false => pure ()) q E z := fun b z q hq => by
    cases b
    · exact wpAny_pure hq
    · exact wpAny_rule hq
  unfold setAddHashed setAddHashedIn
  refine wpAny_holding (wpAny_bind (wpAny_setState_of ho hd T.fit ?_))
  dsimp only
  rw [byScan_of (show (Value.str k u).scannable = true from rfl) T.few hel]
  simp only [↓reduceIte]
  unfold setAddByScan
  refine wpAny_bind (wpAny_bind (wpAny_rule (wpAny_bind (wpAny_setScan_of (str_isS k u) ho hd T.fit hel ?_))))
  cases hfi : List.findIdx? (fun e => (PySem.strKind P w).is k e.2) es.toList with
  | some j =>
    dsimp only
    obtain ⟨hj, pj, _⟩ := List.findIdx?_eq_some_iff_getElem.mp hfi
    have hk : k ∈ l := (T.mem (P := P) k).2 ⟨_, List.getElem_mem hj, pj⟩
    refine wpAny_pure (wpAny_pure (hQ s.heap _ (Heap.SameBut.refl a s.heap) ?_))
    rw [show addT k l = l from if_pos hk]
    exact ⟨o, es, ep, t, ho, hex, hd, T⟩
  | none =>
    dsimp only
    have hk : k ∉ l := fun z => by
      obtain ⟨e, he, q⟩ := (T.mem (P := P) k).1 z
      have c := List.findIdx?_eq_none_iff.mp hfi e he
      rw [q] at c; cases c
    rw [show addT k l = k :: l from if_neg hk] at hQ
    have T1 : TsOk w (layNew t es ((PySem.strKind P w).hash k) (.str k u)).1 (layNew t es ((PySem.strKind P w).hash k) (.str k u)).2.1 (k :: l) := T.lay u hk room
    generalize layNew t es ((PySem.strKind P w).hash k) (.str k u) = Z at T1 ⊢
    obtain ⟨es1, t1, wd, gv⟩ := Z
    dsimp only at T1 ⊢
    refine wpAny_bind (hgw _ _ _ ?_)
    split
    · refine wpAny_bind ?_
      rw [hashByValue_scannable 8 (x := Value.str k u) rfl]
      refine wpAny_pure (ts_tail (l := k :: l) ?_ ho hex hd ?_ fun h' sb r => ?_)
      · exact fun b z q hq => hgw b z q hq
      · split
        · exact T1
        · exact T1.off
      · dsimp only
        exact wpAny_pure (hQ h' _ sb r)
    · refine wpAny_bind (wpAny_pure ?_)
      simp only [↓reduceIte]
      refine ts_tail ?_ ho hex hd T1 fun h' sb r => ?_
      · exact fun b z q hq => hgw b z q hq
      · dsimp only
        exact wpAny_pure (hQ h' _ sb r)
end
end
/-! ### sets of texts, tracked: add, comprehensions, sorted -/
section
open PySem PySem.Spec PyProof.Rows
def TSO (w : World) (a : Addr) (l : List Str) : HO := .ext fun h => TSet w h a l
theorem tso_new {w : World} {P : Program} {H : Hp} {h : Heap} {a : Addr} {l : List Str} (R : TSet w h a l) : ObjOk P w H h a (TSO w a l) := by
  have ⟨o, _, _, _, ho, _⟩ := R
  exact ⟨R, ⟨o, ho⟩, fun _ _ q k => q.at k⟩
section
variable {X : Cx}
theorem tso_get {pins : List (Addr × Obj)} {σ : L2.St} {H : Hp} {s : Shared} {a : Addr} {l : List Str} (I : Inv X pins σ H s) (ha : H a = some (TSO X.w a l)) : TSet X.w s.heap a l := (I.hok a _ ha).1
theorem ts_add {pins : List (Addr × Obj)} {σ : L2.St} {H : Hp} {s : Shared} {E : Value → Shared → Prop} {D : Addr} {l : List Str} {k : Str} {u : Tok} {Q : Value → Shared → Prop} (I : Inv X pins σ H s) (hD : H D = some (TSO X.w D l)) (room : l.length + 1 < scanBound)
    (h : ∀ s', Inv X pins σ (upd H D (TSO X.w D (addT k l))) s' → Q .none s') : wpAny (model X.prog X.w) X.A (call (.builtin "set.add") [.ref D, .str k u]) Q E s := by
  have R := tso_get I hD
  have hS : s.heap.SetOf (PySem.strKind X.prog X.w) D (fun k => decide (k ∈ l)) l.length := R.setOf
  refine wpAny_call_entry F.slot_set_add hS.typeIs F.entry_set_add ?_ (F.args_set_add_2 _ _)
  unfold Builtin.«set.add» Builtin.Frozenset.oneOther
  simp only [List.isEmpty_nil, bind_assoc]
  unfold Builtin.Frozenset.addrOf setAdd
  refine wpAny_bind (wpAny_pure ?_)
  try dsimp only
  refine wpAny_bind (wpAny_pure ?_)
  try dsimp only
  refine wpAny_bind (wpAny_holding (wpAny_bind ((PySem.strKind X.prog X.w).pyHash (str_isS k u) (ts_addH (s := { s with toks := s.toks + 1 }) R room fun h' b sb new => ?_))))
  have he : ∃ v, h'.get? D = some v := let ⟨o, _, _, _, ho, _⟩ := new; ⟨o, ho⟩
  exact wpAny_pure ⟨_, rfl, h _ (I.write (e := D) (t' := s.toks + 1) (by rw [hD]; trivial) (.inl rfl) (fun b v hb hu => (sb.2 b hb).trans hu) he (tso_new new))⟩
/-- {elt for target in iter if ..}, elt a text: D the new set -/
def tScT (w : World) (wi : TI) (g : TG) (tt : TT) (te : TE) (vs : List Nat) : TE := fun σ H Q => wi σ H fun J H1 => ∀ D, H1 D = none → ∃ W : Nat → Nat → Hp → Prop, (∃ m, W 0 m (upd H1 D (TSO w D []))) ∧ ∀ i m H, W i m H →
  (J.stop i H ∧ Q (.ref D) H) ∨ (J.go i H ∧ ∃ Nx : Hp → Prop, (∀ H', Nx H' → ∃ m', m' < m ∧ W (i + 1) m' H') ∧ ∀ x H', J.yld i H x H' → g x (wipe σ vs) H' fun σ2 H2 => wipe σ2 vs = wipe σ vs ∧ tt σ2 H2 fun b H3 =>
    if b = true then te σ2 H3 fun y H4 => ∃ (c : Str) (l : List Str), y = .str c ∧ H4 D = some (TSO w D l) ∧ l.length + 1 < scanBound ∧ Nx (upd H4 D (TSO w D (addT c l))) else Nx H3)
theorem pe_scT {elt tg iter : Expr} {ifs : List Expr} {scope : Scope} {own : List (Str × Nat)} {pos : Pos} {wi : TI} {g : TG} {tt : TT} {te : TE} (hc : X.calm = true) (hN : X.N.Nodup) (hi : PI X tg iter wi) (ok : BlkOk X.N X.env.scope scope own)
    (hg : ∀ (s : Shared) (H : Hp) (C : Addr) (cl : List (Str × Addr)) (fp : List Addr), PG (X.blk s H scope (compEnvC scope cl C X.env) fp) tg g) (ht : ∀ (s : Shared) (H : Hp) (C : Addr) (cl : List (Str × Addr)) (fp : List Addr), PTs (X.blk s H scope (compEnvC scope cl C X.env) fp) ifs tt)
    (he : ∀ (s : Shared) (H : Hp) (C : Addr) (cl : List (Str × Addr)) (fp : List Addr), PE (X.blk s H scope (compEnvC scope cl C X.env) fp) elt te) (hs : ∀ x, foldedSetIterable iter X.env x = pure x := by intro _; rfl) :
    PE X (.SetComp elt [⟨tg, iter, ifs, 0⟩] scope pos) (tScT X.w wi g tt te (own.map (·.2))) := by
  refine ⟨fun pins s σ H Q I h => ?_⟩
  rw [PpSet.eval_SetComp]
  have fr : ∀ y ∈ scope.names, y.2 = .free → ∃ c, X.env.cells.lookup y.1 = some c := fun y hy e => (ok.free y hy e).elim (fun k => I.ok.has _ (.inl k)) fun k => I.ok.has _ (.inr k)
  refine wpAny_comprehension_free (use := none) rfl hs (closure_ok fr) ok.kind (fun y hy e => by rw [ok.uniq y hy, e]) (thn (hi.run pins s σ H _ I h) fun xv s1 hx => thn hx fun itv s2 h2 => ?_)
  obtain ⟨it, fp, tn, J, H2, rfl, I2, T, st2, f2, q⟩ := h2
  refine PpSet.newSet_ok (newEnv_comp ?_)
  generalize hD : s2.heap.objs.size = D
  obtain ⟨W, ⟨m0, w0⟩, turn⟩ := q D (I2.hok.fresh (Nat.le_of_eq hD))
  generalize hs3 : ({ s2 with heap := s2.heap.push { cls := .type "set", dict := none, data := .set #[] 0 (.fresh 0 0 (!X.w.params.followText "set-order")) } } : Shared) = s3
  have e3 : s3.heap = s2.heap.push { cls := .type "set", dict := none, data := .set #[] 0 (.fresh 0 0 (!X.w.params.followText "set-order")) } := by rw [← hs3]
  have I3 : Inv X pins σ (upd H2 D (TSO X.w D [])) s3 := by
    rw [← hs3]
    exact I2.laid (t' := s2.toks) (fun b o e => Heap.get?_push_of_some _ e) (Nat.le_of_eq hD) (hD ▸ tso_new (TSet.new X.w s2.heap))
  have f3 : ∀ b ∈ fp, FpOk X pins (upd H2 D (TSO X.w D [])) b ∧ b < s3.heap.objs.size := fun b hb => by
    obtain ⟨o, e, _⟩ := T.obj _ _ st2 b hb
    have lt := Heap.lt_size e
    refine ⟨⟨?_, (f2 b hb).2⟩, by rw [e3, Heap.size_push]; exact Nat.lt_succ_of_lt lt⟩
    rw [upd_ne (by rw [← hD]; exact Nat.ne_of_lt lt)]
    exact (f2 b hb).1
  have I4 := block_start I3 ok hN f3
  have pg := hg s3 (upd H2 D (TSO X.w D [])) s3.heap.objs.size (cellsFrom (s3.heap.objs.size + 1) scope.names (cloFrom X.env.cells scope.names [])) fp
  have pt := ht s3 (upd H2 D (TSO X.w D [])) s3.heap.objs.size (cellsFrom (s3.heap.objs.size + 1) scope.names (cloFrom X.env.cells scope.names [])) fp
  have pe := he s3 (upd H2 D (TSO X.w D [])) s3.heap.objs.size (cellsFrom (s3.heap.objs.size + 1) scope.names (cloFrom X.env.cells scope.names [])) fp
  have fin0 : ∀ s' m H', Inv X pins σ H' s' → Q (.ref D) H' → s'.heap.Ns s3.heap.objs.size m → FpOk X pins H' s3.heap.objs.size → compPost (model X.prog X.w) X.A X.xe none (EP X pins σ Q) (.ref D) s3.heap.objs.size (.ok .next) s' := fun s' m H' I' q hn f => by
    obtain ⟨f0, f1, f2, f3, f4, f5⟩ := f
    exact ⟨m, hn, fun h'' sb => ⟨.ref D, H', I'.turned (t' := s'.toks) (fun b o hb e => (sb.2 b hb).trans e) f0 f1 f3 f4 f5, rfl, q⟩⟩
  show codeAny _ _ (.compStart (.SetComp elt [⟨tg, iter, ifs, 0⟩] scope pos) 0 (.ref it) (.ref D) (compEnvC scope (cellsFrom (s3.heap.objs.size + 1) scope.names (cloFrom X.env.cells scope.names [])) s3.heap.objs.size X.env)) (compPost (model X.prog X.w) X.A X.xe none (EP X pins σ Q) (.ref D) s3.heap.objs.size) { s3 with heap := pushCells (s3.heap.push { cls := .type "dict", data := .dict #[] }) scope.names }
  have nfp : ∀ b ∈ fp, (upd H2 D (TSO X.w D [])) b = none := fun b hb => (f3 b hb).1.1
  have st3 : tn 0 s3.heap := T.keep _ _ _ st2 fun b _ o e => by rw [e3]; exact Heap.get?_push_of_some _ e
  generalize hce : compEnvC scope (cellsFrom (s3.heap.objs.size + 1) scope.names (cloFrom X.env.cells scope.names [])) s3.heap.objs.size X.env = ce at I4 pg pt pe ⊢
  have cL : ce.locals = s3.heap.objs.size := by subst hce; rfl
  generalize hH3 : upd H2 D (TSO X.w D []) = H3 at I3 I4 pg pt pe w0 nfp f3
  generalize hs4 : ({ s3 with heap := pushCells (s3.heap.push { cls := .type "dict", data := .dict #[] }) scope.names } : Shared) = s4 at I4 ⊢
  have st4 : tn 0 s4.heap := T.keep _ _ _ st3 fun b _ o e => by rw [← hs4]; exact pushCells_keeps _ _ _ _ (Heap.get?_push_of_some _ e)
  have stat : ∀ {σ' : L2.St} {H' : Hp} {s' : Shared}, Inv (X.blk s3 H3 scope ce fp) [] σ' H' s' → (∀ b ∈ fp, H' b = none) → ∀ b ∈ fp, FpOk (X.blk s3 H3 scope ce fp) [] H' b := fun {σ' H' s'} J hn b hb =>
    ⟨hn b hb, (J.ok.exf b hb).1, J.ok.exfs b hb, .inl hb, fun x c e => (J.ok.exf b hb).2 x c e, fun p hp => absurd (show p ∈ ([] : List (Addr × Obj)) ++ [] from hp) (by simp)⟩
  have loop : codeAny (model X.prog X.w) X.A (.compLoop (.SetComp elt [⟨tg, iter, ifs, 0⟩] scope pos) 0 (.ref it) (.ref D) ce) (compPost (model X.prog X.w) X.A X.xe none (EP X pins σ Q) (.ref D) s3.heap.objs.size) s4 := by
    refine PpSet.compLoopS_any (fun n s' => ∃ i H', Inv (X.blk s3 H3 scope ce fp) [] (wipe σ (own.map (·.2))) H' s' ∧ tn i s'.heap ∧ (∀ b ∈ fp, H' b = none) ∧ W i n H') ?_ m0 ⟨0, H3, I4, st4, nfp, w0⟩
    rintro n s5 ⟨i, H5, I5, st5, n5, w5⟩
    rcases turn i n H5 w5 with ⟨stop, qq⟩ | ⟨go, Nx, hNx, step⟩
    · refine thnF (T.done (X.blk s3 H3 scope ce fp) rfl rfl rfl hc i [] s5 _ H5 (fun _ _ => False) I5 (stat I5 n5) st5 stop) fun r s6 ⟨hr, I6⟩ => ?_
      subst hr
      have I7 : Inv X pins σ H5 s6 := I3.call' (ch := fp) I6.os I6.base I6.hok I6.bare fun b hb => let ⟨_, g1, _, g3, g4, g5⟩ := (f3 b hb).1; ⟨g3, g1, g4, g5⟩
      have nC : H5 ce.locals = none := I6.free
      obtain ⟨m, hn, _⟩ := I6.loc
      have hn : s6.heap.Ns ce.locals m := hn
      rw [cL] at hn nC
      exact fin0 s6 m H5 I7 qq hn (I3.fpOk (Nat.le_refl _) nC)
    · refine thnF (T.item (X.blk s3 H3 scope ce fp) rfl rfl rfl hc i [] s5 _ H5 (fun _ _ => False) I5 (stat I5 n5) st5 go) fun r s6 ⟨u, hr, h6⟩ => ?_
      subst hr
      refine thnF h6 fun _ s7 ⟨x, H7, I7, r7, y7, st7, n7⟩ => ?_
      refine thnF (pg.run _ s7 _ H7 x u _ (I7.pinned (stat I7 n7) (T.obj _ _ st7)) r7 (step x H7 y7)) fun _ s8 ⟨σ8, H8, I8, hw8, q8⟩ => ?_
      refine thnF (pt.run _ s8 σ8 H8 _ I8 q8) fun b s9 ⟨H9, I9, q9⟩ => ?_
      have back : ∀ {s' : Shared} {H' : Hp}, Inv (X.blk s3 H3 scope ce fp) ([] ++ pinsAt fp s7.heap) σ8 H' s' → Nx H' → ∃ m, m < n ∧ ∃ i H', Inv (X.blk s3 H3 scope ce fp) [] (wipe σ (own.map (·.2))) H' s' ∧ tn i s'.heap ∧ (∀ b ∈ fp, H' b = none) ∧ W i m H' := fun {s' H'} J nx => by
        obtain ⟨m', hm, w'⟩ := hNx H' nx
        have pin : ∀ b ∈ fp, ∀ o, s7.heap.get? b = some o → s'.heap.get? b = some o ∧ H' b = none := fun b hb o e =>
          let z := J.pin (b, o) (List.mem_append_right _ (List.mem_append_right _ (mem_pinsAt hb e))); ⟨z.1, z.2.1⟩
        refine ⟨m', hm, i + 1, H', (J.unpinned (pins := [])).weak (by rw [← hw8, wipe_length]) (fun j v e => ?_), T.keep _ _ _ st7 fun b hb o e => (pin b hb o e).1, fun b hb => ?_, w'⟩
        · rw [← hw8] at e
          exact (wipe_some e).1
        · obtain ⟨o, e, _⟩ := T.obj _ _ st7 b hb
          exact (pin b hb o e).2
      cases b with
      | false =>
        simp only [Bool.false_eq_true, if_false] at q9 ⊢
        exact back I9 q9
      | true =>
        simp only [if_true] at q9 ⊢
        refine thnF (pe.run _ s9 σ8 H9 _ I9 q9) fun z s10 ⟨yv, H10, I10, r10, c, l, ey, hD10, hz10, nx⟩ => ?_
        subst ey
        obtain ⟨tk, rfl⟩ := r10
        exact ts_add (X := X.blk s3 H3 scope ce fp) I10 hD10 hz10 fun s11 I11 => back I11 nx
  exact PpSet.codeAny_compStart_set loop (T.self X.A 0 _ _ _ st4 loop)
end
/-- over a list that the block leaves as it is -/
theorem sc_listT {w : World} {K : PySem.W.Frag} {a : Addr} {xs : List V} {g : TG} {tt : TT} {te : TE} {vs : List Nat} {σ : L2.St} {H1 : Hp} {D : Addr} {Qd : Hp → Prop} (Pv : Nat → Hp → Prop) (h0 : Pv 0 (upd H1 D (TSO w D []))) (hl : ∀ i H, i ≤ xs.length → Pv i H → SqL K H a xs)
    (hs : ∀ i x H, xs[i]? = some x → Pv i H → g x (wipe σ vs) H fun σ2 H2 => wipe σ2 vs = wipe σ vs ∧ tt σ2 H2 fun b H3 =>
      if b = true then te σ2 H3 fun y H4 => ∃ (c : Str) (l : List Str), y = .str c ∧ H4 D = some (TSO w D l) ∧ l.length + 1 < scanBound ∧ Pv (i + 1) (upd H4 D (TSO w D (addT c l))) else Pv (i + 1) H3) (hd : ∀ H, Pv xs.length H → Qd H) :
    ∃ W : Nat → Nat → Hp → Prop, (∃ m, W 0 m (upd H1 D (TSO w D []))) ∧ ∀ i m H, W i m H →
      ((Itl K a).stop i H ∧ Qd H) ∨ ((Itl K a).go i H ∧ ∃ Nx : Hp → Prop, (∀ H', Nx H' → ∃ m', m' < m ∧ W (i + 1) m' H') ∧ ∀ x H', (Itl K a).yld i H x H' → g x (wipe σ vs) H' fun σ2 H2 => wipe σ2 vs = wipe σ vs ∧ tt σ2 H2 fun b H3 =>
        if b = true then te σ2 H3 fun y H4 => ∃ (c : Str) (l : List Str), y = .str c ∧ H4 D = some (TSO w D l) ∧ l.length + 1 < scanBound ∧ Nx (upd H4 D (TSO w D (addT c l))) else Nx H3) := by
  refine ⟨fun i m H => m = xs.length - i ∧ i ≤ xs.length ∧ Pv i H, ⟨xs.length, (Nat.sub_zero _).symm, Nat.zero_le _, h0⟩, ?_⟩
  rintro i m H ⟨rfl, hi, p⟩
  have q := hl i H hi p
  rcases Nat.lt_or_ge i xs.length with lt | ge
  · refine .inr ⟨⟨xs, xs[i], q, by simp [lt]⟩, Pv (i + 1), fun H' p' => ⟨xs.length - (i + 1), by omega, rfl, lt, p'⟩, fun x H' y => ?_⟩
    obtain ⟨e, y⟩ := y
    subst e
    exact hs i x _ (y xs q) p
  · obtain rfl : i = xs.length := Nat.le_antisymm hi ge
    exact .inl ⟨⟨xs, q, Nat.le_refl _⟩, hd H p⟩
end
/-! ### sorted texts -/
section
open PySem PySem.Spec PyProof.Rows
/-- x stands ahead of y, or they are the same -/
def leT (x y : Str) : Prop := ¬ y.cps.toList < x.cps.toList
instance (x y : Str) : Decidable (leT x y) := inferInstanceAs (Decidable (¬ _))
theorem str_ext {x y : Str} (h : x.cps.toList = y.cps.toList) : x = y := by
  cases x
  cases y
  exact congrArg Str.mk (Array.toList_inj.mp h)
theorem nlt_irrefl : ∀ l : List Nat, ¬ l < l := List.lt_irrefl
theorem leT_refl (x : Str) : leT x x := List.lt_irrefl _
theorem leT_anti {x y : Str} (h : leT x y) (k : leT y x) : x = y := str_ext (List.le_antisymm (List.not_lt.mp h) (List.not_lt.mp k))
theorem leT_trans {x y z : Str} (h : leT x y) (k : leT y z) : leT x z := List.not_lt.mpr (List.le_trans (List.not_lt.mp h) (List.not_lt.mp k))
theorem leT_total (x y : Str) : leT x y ∨ leT y x := by
  rcases List.le_total x.cps.toList y.cps.toList with h | h
  · exact .inl (List.not_lt.mpr h)
  · exact .inr (List.not_lt.mpr h)
theorem rising_pw : ∀ (l : List Str) (p : Str), risingS p l = true → (p :: l).Pairwise leT
  | [], p, _ => by simp
  | x :: r, p, h => by
    have h1 : (leT p x) ∧ risingS x r = true := by
      unfold risingS at h
      rw [Bool.and_eq_true, PyProof.Rows.ltCps_eq, Bool.not_eq_true', decide_eq_false_iff_not] at h
      exact h
    have ih := rising_pw r x h1.2
    refine List.pairwise_cons.mpr ⟨fun y hy => ?_, ih⟩
    rcases List.mem_cons.mp hy with rfl | hy
    · exact h1.1
    · exact leT_trans h1.1 ((List.pairwise_cons.mp ih).1 y hy)
theorem sorted_pw {l : List Str} (h : sortedS l = true) : l.Pairwise leT := by
  cases l with
  | nil => exact .nil
  | cons x r => exact rising_pw r x h
theorem pw_unique : ∀ {l m : List Str}, l.Perm m → l.Pairwise leT → m.Pairwise leT → l = m
  | [], m, p, _, _ => (List.perm_nil.mp p.symm).symm
  | x :: l, m, p, hl, hm => by
    cases m with
    | nil => exact absurd (List.perm_nil.mp p) (by simp)
    | cons y m =>
      have e : x = y := by
        have h1 : x ∈ y :: m := p.mem_iff.mp List.mem_cons_self
        have h2 : y ∈ x :: l := p.mem_iff.mpr List.mem_cons_self
        rcases List.mem_cons.mp h1 with e | h1
        · exact e
        rcases List.mem_cons.mp h2 with e | h2
        · exact e.symm
        exact leT_anti ((List.pairwise_cons.mp hl).1 y h2) ((List.pairwise_cons.mp hm).1 x h1)
      subst e
      rw [pw_unique (List.perm_cons _ |>.mp p) (List.pairwise_cons.mp hl).2 (List.pairwise_cons.mp hm).2]
/-- sorted -/
def sortT (l : List Str) : List Str := l.mergeSort fun x y => decide (leT x y)
theorem sortT_perm (l : List Str) : (sortT l).Perm l := List.mergeSort_perm l _
theorem sortT_pw (l : List Str) : (sortT l).Pairwise leT := by
  have h := List.pairwise_mergeSort (le := fun x y => decide (leT x y)) (fun a b c h k => by
    rw [decide_eq_true_eq] at h k ⊢
    exact leT_trans h k) (fun a b => by
    rw [Bool.or_eq_true, decide_eq_true_eq, decide_eq_true_eq]
    exact leT_total a b) l
  exact h.imp fun h => of_decide_eq_true h
theorem sortT_of {l ys : List Str} (p : ys.Perm l) (h : sortedS ys = true) : ys = sortT l := pw_unique (p.trans (sortT_perm l).symm) (sorted_pw h) (sortT_pw l)
theorem sortT_congr {l m : List Str} (p : l.Perm m) : sortT l = sortT m := pw_unique ((sortT_perm l).trans (p.trans (sortT_perm m).symm)) (sortT_pw l) (sortT_pw m)
theorem sortT_mem {l : List Str} {k : Str} : k ∈ sortT l ↔ k ∈ l := (sortT_perm l).mem_iff
theorem sortT_len {l : List Str} : (sortT l).length = l.length := (sortT_perm l).length_eq
theorem nd_perm {l m : List Str} (hl : l.Nodup) (hm : m.Nodup) (h : ∀ k, k ∈ l ↔ k ∈ m) : l.Perm m := by
  rw [List.perm_iff_count]
  intro k
  rw [hl.count, hm.count]
  simp [h k]
theorem strs_ofV : ∀ (l : List Value), (∀ v ∈ l, ∃ k u, v = Value.str k u) → ∃ ss, StrsAre l ss ∧ l.map (fun v => keyT (0, v)) = ss
  | [], _ => ⟨[], .nil, rfl⟩
  | v :: l, h => by
    obtain ⟨k, u, rfl⟩ := h v List.mem_cons_self
    obtain ⟨ss, h1, h2⟩ := strs_ofV l fun x hx => h x (List.mem_cons_of_mem _ hx)
    exact ⟨k :: ss, .cons k u h1, by rw [List.map_cons, h2]; rfl⟩
section
variable {P : Program} {w : World} {A : Around} {E : Value → Shared → Prop} {s : Shared} {a : Addr} {l : List Str}
theorem ts_sorted {Q : Value → Shared → Prop} (R : TSet w s.heap a l) (hh : A.handled = none)
    (hQ : ∀ s' p (out : Array Value) (c : Nat), (∀ b o, s.heap.get? b = some o → s'.heap.get? b = some o) → s'.gens = s.gens → s'.os = s.os → s.heap.objs.size ≤ p → s'.heap.get? p = some (seqObj "list" out c) → StrsAre out.toList (sortT l) → Q (.ref p) s') :
    wpAny (model P w) A (call (.builtin "sorted") [.ref a]) Q E s := by
  obtain ⟨o, es, ep, t, ho, hex, hd, T⟩ := R
  refine Calls.call_function_entry kind_sorted plain_sorted entry_sorted (args_sorted1 _) ?_
  unfold Builtin.«sorted»
  refine wpAny_bind (m := checkCount "sorted" 1 1 _) (wpAny_pure (wpAny_bind (L2.collect_set (A := A.in1) hh ⟨o, ho, hex.1, hd⟩ T.fit T.few T.ris T.led fun s1 vs k1 hz g1 o1 pm => ?_)))
  obtain ⟨ss, hS, es'⟩ := strs_ofV vs fun v hv => by
    obtain ⟨e, he, q⟩ := List.mem_map.mp (pm.mem_iff.mp hv)
    obtain ⟨k, u, rfl⟩ := T.good e he
    exact ⟨k, u, q.symm⟩
  have ps : ss.Perm l := by
    have q := pm.map fun v => keyT (0, v)
    rw [es', List.map_map] at q
    exact q.trans T.perm
  have hv : vs.length = l.length := by rw [pm.length_eq, List.length_map, Array.length_toList, T.size]
  have hL : vs.length ≤ sizeLine := by rw [hv, ← T.size]; exact fits_of_scanBound T.few
  refine wpAny_bind (wpAny_newList ?_ hL)
  have hoL : (s1.heap.push (seqObj "list" vs.toArray 0)).get? s1.heap.objs.size = some (seqObj "list" vs.toArray 0) := Heap.get?_push_size _ rfl
  refine wpAny_bind (wpAny_holding (wpAny_call_entry slot_list_sort ⟨_, hoL, rfl⟩ entry_list_sort (list_sort_treeKAny strKind_oneLt hoL hS.keysOf (fun v₁ v₂ rest e => keyKind_strs (by rw [← e]; exact hS)) hL fun st' hp hs => ⟨_, rfl, ?_⟩) (args_list_sort _)))
  obtain ⟨ys, h1, h2, h3⟩ := sorted_out_str hS hp hs
  obtain ⟨c, hc⟩ := sortedHeap_at (vs := vs) (out := (arrOf st').map (·.2)) hoL
  rw [sortT_of (h2.trans ps) h3] at h1
  refine wpAny_pure ⟨_, rfl, hQ _ s1.heap.objs.size _ c (fun b u e => ?_) g1 o1 hz hc h1⟩
  have q := k1 b u e
  have lt := Heap.lt_size q
  show (sortedHeap (s1.heap.push (seqObj "list" vs.toArray 0)) s1.heap.objs.size vs _).get? b = some u
  rw [sortedHeap_old (Nat.ne_of_lt lt) (by rw [size_push']; exact Nat.lt_succ_of_lt lt)]
  exact Heap.get?_push_of_some _ q
end
section
variable {X : Cx}
/-- sorted(found) -/
theorem cr_sortTS (hc : X.calm = true) : CallR X (.builtin "sorted") (fun vs H Q => ∃ (a : Addr) (l : List Str), vs = [V.ref a] ∧ H a = some (TSO X.w a l) ∧ ∀ p, H p = none → Q (.ref p) (upd H p (.lst ((sortT l).map V.str)))) := by
  intro pins s σ H vs us Q I r h
  obtain ⟨a, l, rfl, ha, q⟩ := h
  have R := tso_get I ha
  rw [Vals.ref1 r]
  have hl : l.length ≤ sizeLine := by
    obtain ⟨o, es, ep, t, ho, hex, hd, T⟩ := R
    rw [← T.size]; exact fits_of_scanBound T.few
  refine ts_sorted R (I.ok.hd hc) fun s' p out c k g o hp hg hi => ?_
  have hn : H p = none := I.hok.fresh hp
  have J : Inv X pins σ (upd H p (.lst ((sortT l).map V.str))) { s with heap := s'.heap, gens := s'.gens, drawn := s'.drawn, toks := s'.toks } :=
    I.call (ch := []) (Un.laid k hp hn) (I.hok.laid k hp ⟨by rw [List.length_map, sortT_len]; exact hl, out.toList, c, vals_of_strs hi, hg⟩) (by rw [g]; exact I.bare) (fun _ z => nomatch z)
  obtain ⟨h', g', d', t', os'⟩ := s'
  obtain ⟨h0, g0, d0, t0, os0⟩ := s
  cases (show os' = os0 from o)
  exact ⟨.ref p, _, J, rfl, q p hn⟩
/-- sorted(texts), any number -/
theorem cr_sortLS : CallR X (.builtin "sorted") (fun vs H Q => ∃ (a : Addr) (xs : List Str), vs = [V.ref a] ∧ SqL X.K H a (xs.map V.str) ∧ ∀ p, H p = none → Q (.ref p) (upd H p (.lst ((sortT xs).map V.str)))) := by
  intro pins s σ H vs us Q I r h
  obtain ⟨a, xs, rfl, hs, q⟩ := h
  obtain ⟨its, rv, hl, hlen⟩ := I.list hs
  rw [Vals.ref1 r]
  have l0 := rv.length
  rw [List.length_map] at l0 hlen
  refine PyProof.Rows.sorted_strsAny hl.isList rv.strs (by rw [← l0]; exact hlen) fun out ys h1 h2 h3 => ?_
  obtain ⟨ep, he'⟩ := PyProof.Rows.sortedAll_at s.heap its out
  rw [sortT_of h2 h3] at h1
  exact ⟨.ref _, upd H (s.heap.objs.size + 1) (.lst ((sortT xs).map V.str)), I.laid (t' := s.toks) (fun _ _ => PyProof.Rows.sortedAll_old) (Nat.le_succ _) ⟨by rw [List.length_map, sortT_len]; exact hlen, out.toList, ep, vals_of_strs h1, he'⟩, rfl, q _ (I.hok.fresh (Nat.le_succ _))⟩
end
end
/-! ### set(texts) -/
section
open PySem PySem.Spec PyProof.Rows
def setT (xs : List Str) : List Str := xs.foldl (fun l k => addT k l) []
theorem setT_go : ∀ (xs l : List Str), (∀ k, k ∈ xs.foldl (fun l k => addT k l) l ↔ k ∈ l ∨ k ∈ xs) ∧ (l.Nodup → (xs.foldl (fun l k => addT k l) l).Nodup) ∧ (xs.foldl (fun l k => addT k l) l).length ≤ l.length + xs.length
  | [], l => ⟨fun k => by simp, id, by simp⟩
  | x :: r, l => by
    obtain ⟨h1, h2, h3⟩ := setT_go r (addT x l)
    refine ⟨fun k => ?_, fun h => h2 (addT_nd h), ?_⟩
    · rw [List.foldl_cons, h1 k, addT_mem, List.mem_cons]
      constructor
      · rintro ((h | h) | h)
        · exact .inr (.inl h)
        · exact .inl h
        · exact .inr (.inr h)
      · rintro (h | h | h)
        · exact .inl (.inr h)
        · exact .inl (.inl h)
        · exact .inr h
    · rw [List.foldl_cons, List.length_cons]
      have := addT_len (k := x) (l := l)
      omega
theorem setT_mem {xs : List Str} {k : Str} : k ∈ setT xs ↔ k ∈ xs := by
  have := (setT_go xs []).1 k
  simpa [setT] using this
theorem setT_nd {xs : List Str} : (setT xs).Nodup := (setT_go xs []).2.1 List.nodup_nil
theorem setT_len {xs : List Str} : (setT xs).length ≤ xs.length := by
  have := (setT_go xs []).2.2
  simpa [setT] using this
theorem setT_take {xs : List Str} {i : Nat} {k : Str} (h : xs[i]? = some k) : setT (xs.take (i + 1)) = addT k (setT (xs.take i)) := by
  unfold setT
  rw [List.take_add_one, h, List.foldl_append]; rfl
theorem sortT_set {xs ys : List Str} (h : ∀ k, k ∈ xs ↔ k ∈ ys) : sortT (setT xs) = sortT (setT ys) := sortT_congr (nd_perm setT_nd setT_nd fun k => by rw [setT_mem, setT_mem]; exact h k)
/-- an empty set's object -/
abbrev set0 (w : World) : Obj := { cls := .type "set", dict := none, data := .set #[] 0 (.fresh 0 0 (!w.params.followText "set-order")) }
theorem TSet.first {w : World} {h : Heap} {a : Addr} (ho : h.get? a = some (set0 w)) : TSet w h a [] := by
  refine ⟨_, #[], 0, _, ho, ⟨rfl, rfl, rfl⟩, rfl, (fun e he => by simp at he), by simp, List.nodup_nil, by decide, by rfl, List.Pairwise.nil, ?_⟩
  show _ ∨ (!w.params.followText "set-order") = true
  cases w.params.followText "set-order" <;> simp
section
variable {P : Program} {w : World} {A : Around} {E : Value → Shared → Prop} {s : Shared}
theorem ts_update {I : Addr} {fp wr : List Addr} {G : Array GenState → Array GenState → Prop} {n : Nat} {Pv : Nat → Value → Prop} {St : Nat → Shared → Prop} {R : Result → Shared → Prop}
    (W : WalksS P w A.in1 I fp wr G n Pv St) (S : Addr) (hSf : S ∉ fp) (xs : List Str) (hn : n = xs.length) (hb : xs.length + 1 < scanBound) (hval : ∀ i v, Pv i v → ∃ k t, xs[i]? = some k ∧ v = .str k t) :
    ∀ (k i : Nat) (s : Shared), n - i = k → i ≤ n → St i s → TSet w s.heap S (setT (xs.take i)) → (∀ s', Moved (S :: wr) G s s' → TSet w s'.heap S (setT xs) → R (.ok (.ret .none)) s') →
      codeAny (model P w) A (.builtin "set.update.loop" ⟨[.ref S, .ref I], []⟩) R s := by
  have nw : S ∉ wr := fun h => hSf (W.sub _ h)
  have inc : ∀ b ∈ wr, b ∈ S :: wr := fun b hb => List.mem_cons_of_mem _ hb
  intro k
  induction k with
  | zero =>
    intro i s hk hi st hS hR
    obtain rfl : i = n := by omega
    refine codeAny_builtin F.entry_set_update_loop ?_
    rw [Around.under_plainId F.plain_set_update_loop _]
    show wpAny _ A.in1 (pyNext (.ref I) >>= _) _ _ s
    refine wpAny_bind (W.done s _ _ st fun s' hm => ?_)
    rw [List.take_of_length_le (by omega)] at hS
    exact wpAny_pure (hR s' (hm.mono inc) (hS.at fun o e => hm.heap S o nw e))
  | succ k ih =>
    intro i s hk hi st hS hR
    have lt : i < n := by omega
    refine codeAny_builtin F.entry_set_update_loop ?_
    rw [Around.under_plainId F.plain_set_update_loop _]
    show wpAny _ A.in1 (pyNext (.ref I) >>= _) _ _ s
    refine wpAny_bind (W.item i s _ _ lt st fun v s' hP st' hm => ?_)
    obtain ⟨z, t, hz, rfl⟩ := hval i v hP
    have hS' := hS.at (h' := s'.heap) fun o e => hm.heap S o nw e
    have hl : (setT (xs.take i)).length + 1 < scanBound := by
      have h1 := setT_len (xs := xs.take i)
      rw [List.length_take] at h1
      omega
    show wpAny _ A.in1 (holding [Value.str z t] (setAdd S (.str z t)) >>= _) _ _ s'
    refine wpAny_bind (wpAny_holding ?_)
    unfold setAdd
    refine wpAny_holding (wpAny_bind ((PySem.strKind P w).pyHash (k := z) (str_isS z t) (ts_addH (s := { s' with toks := s'.toks + 1 }) hS' hl fun h' b sb hS2 => ?_)))
    rw [← setT_take hz] at hS2
    refine wpAny_pure ⟨plainId_quiet F.plain_set_update_loop _, ih (i + 1) _ (by omega) lt (W.frame _ s' _ _ st' (Nat.le_succ _) fun b hb o e => ?_) hS2 fun s2 m2 q2 => ?_⟩
    · rw [sb.2 b (fun h : b = S => hSf (h ▸ hb))]; exact e
    · refine hR s2 (Moved.trans W.gtrans ((hm.mono inc).then_heap (Nat.le_succ _) fun b o hb e => ?_) m2) q2
      rw [sb.2 b (fun h : b = S => hb (h ▸ List.mem_cons_self))]; exact e
theorem strs_at : ∀ {vs : List Value} {xs : List Str}, StrsAre vs xs → ∀ {i : Nat} {v : Value}, vs[i]? = some v → ∃ k t, xs[i]? = some k ∧ v = .str k t
  | _, _, .nil, i, v, h => by simp at h
  | _, _, .cons y t r, i, v, h => by
    cases i with
    | zero =>
      cases h
      exact ⟨y, t, rfl, rfl⟩
    | succ i => exact strs_at r h
theorem strs_len : ∀ {vs : List Value} {xs : List Str}, StrsAre vs xs → vs.length = xs.length
  | _, _, .nil => rfl
  | _, _, .cons y t r => congrArg Nat.succ (strs_len r)
end
section
variable {X : Cx}
/-- len(found) -/
theorem cr_lenTS : CallR X (.builtin "len") (fun vs H Q => ∃ (a : Addr) (l : List Str), vs = [V.ref a] ∧ H a = some (TSO X.w a l) ∧ Q (.int (l.length : Int)) H) := by
  intro pins s σ H vs us Q I r h
  obtain ⟨a, l, rfl, ha, q⟩ := h
  rw [Vals.ref1 r]
  obtain ⟨o, es, ep, t, ho, hex, hd, T⟩ := tso_get I ha
  have hs := T.size
  have hf := T.few
  have h4 : scanBound = 4096 := rfl
  refine PySem.call_len_set ho hex hd T.fit (by omega) ⟨.int _, H, I.tok _, ?_, q⟩
  rw [hs]
  exact ⟨_, rfl⟩
end
end
/-! ### own classes: o[i], o[i] = v, x in o -/
section
open PySem PySem.Spec PyProof.Rows
variable {X : Cx} {CX : CXT} {k : Nat} {C f a dx : Addr} {fs : List (Str × V)} {fd : FuncData} {ps : List Str} {sp : Sp} {E : L2.St → XK} {pins : List (Addr × Obj)} {σ : L2.St} {H : Hp} {s : Shared}
theorem own_at (I : Inv X pins σ H s) (ea : H a = some (.ins C dx fs)) : ∃ od, PySem.W.InstAt s.heap a (PySem.W.instObj C dx) C (some od) := by
  obtain ⟨mA, O, _⟩ := ins_get I.hok ea
  obtain ⟨od, J, _⟩ := O.look
  exact ⟨od, J⟩
/-- a method of the class, called below the place -/
theorem run_in1 {us : List Value} {vs : List V} {Q : VK} (F : FnOk X.prog X.w X.K X.mg X.base CX k f fd ps sp) (hr : Room (k + 1) X.A) (hb : L2.Binds X.K fd ps []) (hx : PassesAt CX X σ (E σ)) (I : Inv X pins σ H s) (r : Vals vs us) (h : sp vs H Q (E σ)) :
    wpAny (model X.prog X.w) X.A.in1 (call (.ref f) us) (EP X pins σ Q) X.xe s := by
  have hl : (us ++ []).length = ps.length := by rw [List.append_nil, ← r.length]; exact F.len _ _ _ _ h
  have b := hb s us I.kIn hl
  rw [List.append_nil] at b
  refine wpAny_call (codeAny_mono (F.run X.A.in1 X.stack s H ⟨us, []⟩ us vs Q (E σ) hr.in1 I.env0.in1 b r h) fun q s' hq => ?_)
  match q, hq with
  | .error e, hq => exact hx pins H s e s' I hq
  | .ok (.ret u), hq => exact I.after hq
  | .ok .next, hq => exact hq.elim
  | .ok .brk, hq => exact hq.elim
  | .ok .cont, hq => exact hq.elim
theorem run_here {us : List Value} {vs : List V} {Q : VK} (F : FnOk X.prog X.w X.K X.mg X.base CX k f fd ps sp) (hr : Room k X.A) (hb : L2.Binds X.K fd ps []) (hx : PassesAt CX X σ (E σ)) (I : Inv X pins σ H s) (r : Vals vs us) (h : sp vs H Q (E σ)) :
    wpAny (model X.prog X.w) X.A (call (.ref f) us) (EP X pins σ Q) X.xe s := by
  have e0 : vs ++ ([] : List V) = vs := List.append_nil vs
  exact run_fnSD (dvs := []) F hr hb .nil hx I r (e0.symm ▸ h)
def tGetO (C : Addr) (sp : Sp) (E : L2.St → XK) (ta tb : TE) : TE := fun σ H Q => ta σ H fun x H1 => tb σ H1 fun y H2 => ∃ a dx fs, x = .ref a ∧ H2 a = some (.ins C dx fs) ∧ sp [.ref a, y] H2 Q (E σ)
theorem pe_getO {o i : Expr} {ta tb : TE} {pos : Pos} (ho : PE X o ta) (hi : PE X i tb) (hm : Meth X.K C "__getitem__" f) (hfn : PySem.W.fnIn X.K f = true) (F : FnOk X.prog X.w X.K X.mg X.base CX k f fd ps sp) (hr : Room (k + 1) X.A) (hb : L2.Binds X.K fd ps []) (hx : ∀ σ, PassesAt CX X σ (E σ))
    (hsl : ∀ v u, subscripted i true v u = runValue (.builtin "lifetime.subscript" ⟨[v, u], []⟩) := by intro _ _; with_unfolding_all rfl) : PE X (.Subscript o i pos) (tGetO C sp E ta tb) := by
  refine ⟨fun pins s σ H Q I h => ?_⟩
  refine Subscript_ (binT ho hi I h fun v u s2 x y H2 I2 rx ry q => ?_)
  obtain ⟨a, dx, fs, rfl, ea, q⟩ := q
  cases (show v = Value.ref a from rx)
  obtain ⟨od, J⟩ := own_at I2 ea
  have fi := hm.fn
  unfold PySem.W.fnIn at hfn
  split at hfn
  · rename_i e
    unfold subscriptTail getitemInPython
    refine wpAny_bind (wpAny_bind (wpAny_bind (J.type.here ((PySem.W.looks_findIn I2.kIn hm.at_).here ?_))))
    dsimp only
    refine wpAny_bind (wpAny_load (I2.kIn _ _ e) (wpAny_pure ?_))
    dsimp only
    rw [hsl]
    refine wpAny_bind (wpAny_runValue (codeAny_builtin PySem.W.entry_sub ?_))
    unfold Builtin.«lifetime.subscript»
    refine wpAny_bind (PySem.W.special_fn I2.kIn J hm.at_ (beq_iff_eq.mp fi) (wpAny_mono (run_in1 F hr hb (hx σ) I2 (vs := [.ref a, y]) (.cons rfl (.cons ry .nil)) q) (fun z s3 hz => wpAny_pure ?_) fun _ _ z => z))
    show wpAny (model X.prog X.w) X.A (letTemporaryGo o (.ref a) z >>= fun _ => pure z) _ _ s3
    exact wpAny_bind (wpAny_letTemporaryGo (wpAny_pure hz))
  · cases hfn
def gSetO (C : Addr) (sp : Sp) (E : L2.St → XK) (to ti : TE) : TG := fun v σ H Q => to σ H fun o H1 => ti σ H1 fun i H2 => ∃ a dx fs, o = .ref a ∧ H2 a = some (.ins C dx fs) ∧ sp [.ref a, i, v] H2 (fun _ H3 => Q σ H3) (E σ)
theorem pg_setO {o i : Expr} {to ti : TE} {pos : Pos} (ho : PE X o to) (hi : PE X i ti) (hm : Meth X.K C "__setitem__" f) (hq : PySem.W.noSeq X.K C = true) (F : FnOk X.prog X.w X.K X.mg X.base CX k f fd ps sp) (hr : Room k X.A) (hb : L2.Binds X.K fd ps []) (hx : ∀ σ, PassesAt CX X σ (E σ))
    (ha : ∀ v, assign (.Subscript o i pos) X.env v = (do
      let ov ← holding [v] (eval o X.env)
      let iv ← holding [v, ov] (eval i X.env)
      standAt pos
      holding [v, ov, iv] (setItem ov iv v)
      release [v, ov, iv] []) := by intro _; rfl) : PG X (.Subscript o i pos) (gSetO C sp E to ti) := by
  refine ⟨fun pins s σ H v u Q I r h => ?_⟩
  rw [ha]
  refine wpAny_bind (wpAny_holding (thn (ho.run pins s σ H _ I h) fun ov s1 ⟨x, H1, I1, r1, q1⟩ => wpAny_bind (wpAny_holding (thn (hi.run pins s1 σ H1 _ I1 q1) fun iv s2 ⟨y, H2, I2, r2, a, dx, fs, ex, ea, q2⟩ => ?_))))
  subst ex
  cases (show ov = Value.ref a from r1)
  obtain ⟨od, J⟩ := own_at I2 ea
  refine wpAny_bind (wpAny_standAt (wpAny_bind (wpAny_holding ?_)))
  unfold setItem sequenceKey
  refine wpAny_holding (wpAny_bind (wpAny_bind (J.type.here (wpAny_bind ((PySem.W.anyM_none I2.kIn hq).here ?_)))))
  rw [if_pos (show (!false) = true from rfl)]
  refine wpAny_pure (wpAny_bind (PySem.W.special_fn I2.kIn J hm.at_ (beq_iff_eq.mp hm.fn) (wpAny_mono (run_here F hr hb (hx σ) I2 (vs := [.ref a, y, v]) (.cons rfl (.cons r2 (.cons r .nil))) q2) (fun z s3 hz => wpAny_pure ?_) fun _ _ z => z)))
  obtain ⟨_, H3, I3, _, q3⟩ := hz
  exact wpAny_release ⟨σ, H3, I3, q3⟩
/-- x in o; x not in o: __contains__ gives a truth value -/
def rInO (C : Addr) (neg : Bool) (sp : Sp) : R2 := fun x y H Q => ∃ a dx fs, y = .ref a ∧ H a = some (.ins C dx fs) ∧ sp [.ref a, x] H (fun v H' => ∃ b, v = .bl b ∧ Q (.bl (if neg = true then !b else b)) H') E0
theorem has_own {Q : Bool → Shared → Prop} {x : V} {v : Value} (I : Inv X pins σ H s) (rx : RelV x v) (ea : H a = some (.ins C dx fs)) (hm : Meth X.K C "__contains__" f) (F : FnOk X.prog X.w X.K X.mg X.base CX0 k f fd ps sp) (hr : Room k X.A) (hb : L2.Binds X.K fd ps []) {Qb : Bool → Hp → Prop}
    (h : sp [.ref a, x] H (fun v H' => ∃ b, v = .bl b ∧ Qb b H') E0) (hQ : ∀ b s' H', Inv X pins σ H' s' → Qb b H' → Q b s') : wpAny (model X.prog X.w) X.A (contains (.ref a) v) Q X.xe s := by
  obtain ⟨od, J⟩ := own_at I ea
  unfold contains
  refine wpAny_holding (wpAny_bind (wpAny_bind (J.type.here ((PySem.W.looks_findIn I.kIn hm.at_).here ?_))))
  rw [if_neg (by simp)]
  refine wpAny_bind (PySem.W.unlessNone_K I.kIn J hm.at_ hm.fn (wpAny_mono (run_here (E := fun _ => E0) F hr hb (fun _ _ _ _ _ _ z => z.elim) I (vs := [.ref a, x]) (.cons rfl (.cons rx .nil)) h) (fun z s3 hz => ?_) fun _ _ z => z))
  obtain ⟨w, H3, I3, rw', b, rfl, q⟩ := hz
  cases (show z = Value.bool b from rw')
  exact wpAny_truthy_bool (hQ b s3 H3 I3 q)
theorem op_inO (hm : Meth X.K C "__contains__" f) (F : FnOk X.prog X.w X.K X.mg X.base CX0 k f fd ps sp) (hr : Room k X.A) (hb : L2.Binds X.K fd ps []) : OpR X (compareOp .In) (rInO C false sp) := by
  intro pins s σ H x y v u Q I rx ry h
  obtain ⟨a, dx, fs, rfl, ea, q⟩ := h
  cases (show u = Value.ref a from ry)
  exact wpAny_bind (has_own I rx ea hm F hr hb (Qb := fun b H' => Q (.bl b) H') q fun b s' H' I' q' => wpAny_pure ⟨.bl b, H', I', rfl, q'⟩)
theorem op_notInO (hm : Meth X.K C "__contains__" f) (F : FnOk X.prog X.w X.K X.mg X.base CX0 k f fd ps sp) (hr : Room k X.A) (hb : L2.Binds X.K fd ps []) : OpR X (compareOp .NotIn) (rInO C true sp) := by
  intro pins s σ H x y v u Q I rx ry h
  obtain ⟨a, dx, fs, rfl, ea, q⟩ := h
  cases (show u = Value.ref a from ry)
  exact wpAny_bind (has_own I rx ea hm F hr hb (Qb := fun b H' => Q (.bl (!b)) H') q fun b s' H' I' q' => wpAny_pure ⟨.bl (!b), H', I', rfl, q'⟩)
theorem passL0 {X : Cx} {σ : L2.St} : PassesAt (L2.CX X.prog X.w) X σ E0 := fun pins H s e s' I c => passL pins σ H s e s' I c
end
/-! ### rules within a comprehension: the text's K by name -/
section
variable {X : Cx} {K : PySem.W.Frag}
theorem pe_fldK {o : Expr} {f : Str} {pos : Pos} {ta : TE} (hK : X.K = K) (ho : PE X o ta) (hab : attributeBase o f X.env (eval o X.env) = eval o X.env) : PE X (.Attribute o f pos) (tFld K ta f) := hK ▸ pe_fld ho hab
theorem op_inK (hK : X.K = K) : OpR X (compareOp .In) (rIn K false) := hK ▸ op_in_seq
theorem op_notInK (hK : X.K = K) : OpR X (compareOp .NotIn) (rIn K true) := hK ▸ op_notIn_seq
theorem ix_listK (hK : X.K = K) : IxR X (rIxL K) := hK ▸ ix_list
theorem ix_tupK (hK : X.K = K) : IxR X (rIxT K) := hK ▸ ix_tup
theorem op_eqDK (hK : X.K = K) (hu : X.A.units + 64 < cLine) : OpR X (compareOp .Eq) (rEqD K) := hK ▸ op_eqD hu
theorem op_neDK (hK : X.K = K) (hu : X.A.units + 64 < cLine) : OpR X (compareOp .NotEq) (rNeD K) := hK ▸ op_neD hu
end
/-! ### lists, the last item first -/
def rv {α : Type} (f : α → V) (l : List α) : List V := (l.map f).reverse
section
variable {α : Type} {f : α → V} {x y : α} {l : List α}
theorem rv_cons : rv f (x :: l) = rv f l ++ [f x] := by simp [rv]
theorem rv_len : (rv f l).length = l.length := by simp [rv]
theorem rv_at : atI (rv f (x :: l)) (-1) = some (f x) := by
  unfold atI ixN
  rw [rv_cons]
  have h1 : ¬ (0 : Int) ≤ -1 := by omega
  have h2 : -((rv f l ++ [f x]).length : Int) ≤ -1 := by rw [List.length_append]; simp; omega
  have h3 : ((-1 : Int) + ((rv f l ++ [f x]).length : Int)).toNat = (rv f l).length := by rw [List.length_append, List.length_singleton]; omega
  simp only [h1, if_false, h2, if_true, Option.bind_some, h3]
  rw [List.getElem?_append_right (Nat.le_refl _), Nat.sub_self]; rfl
theorem rv_ix : ixN (rv f (x :: l)).length (-1) = some l.length := by
  unfold ixN
  rw [rv_len]
  have h1 : ¬ (0 : Int) ≤ -1 := by omega
  have h2 : -((x :: l).length : Int) ≤ -1 := by rw [List.length_cons]; omega
  have h3 : ((-1 : Int) + ((x :: l).length : Int)).toNat = l.length := by rw [List.length_cons]; omega
  simp only [h1, if_false, h2, if_true, h3]
theorem rv_set : (rv f (x :: l)).set l.length (f y) = rv f (y :: l) := by
  rw [rv_cons, rv_cons, ← rv_len (f := f) (l := l), List.set_append_right _ _ (Nat.le_refl _), Nat.sub_self]; rfl
theorem rv_pop : (rv f (x :: l))[(rv f (x :: l)).length - 1]? = some (f x) := by
  rw [rv_len, rv_cons, List.length_cons, Nat.add_sub_cancel, ← rv_len (f := f) (l := l), List.getElem?_append_right (Nat.le_refl _), Nat.sub_self]; rfl
theorem rv_drop : (rv f (x :: l)).dropLast = rv f l := by
  rw [rv_cons, List.dropLast_concat]
end
inductive All2 {α β : Type} (R : α → β → Prop) : List α → List β → Prop
  | nil : All2 R [] []
  | cons {x y l m} : R x y → All2 R l m → All2 R (x :: l) (y :: m)
theorem All2.imp {α β : Type} {R S : α → β → Prop} {l : List α} {m : List β} (a : All2 R l m) (h : ∀ x y, x ∈ l → R x y → S x y) : All2 S l m := by
  induction a with
  | nil => exact .nil
  | cons r _ ih => exact .cons (h _ _ List.mem_cons_self r) (ih fun x y hx => h x y (List.mem_cons_of_mem _ hx))
theorem All2.mem {α β : Type} {R : α → β → Prop} {l : List α} {m : List β} (a : All2 R l m) {x : α} (h : x ∈ l) : ∃ y, y ∈ m ∧ R x y := by
  induction a with
  | nil => cases h
  | cons r _ ih =>
    rcases List.mem_cons.mp h with rfl | h
    · exact ⟨_, List.mem_cons_self, r⟩
    · obtain ⟨y, h1, h2⟩ := ih h
      exact ⟨y, List.mem_cons_of_mem _ h1, h2⟩
theorem All2.len {α β : Type} {R : α → β → Prop} {l : List α} {m : List β} (a : All2 R l m) : l.length = m.length := by
  induction a with
  | nil => rfl
  | cons _ _ ih => rw [List.length_cons, List.length_cons, ih]
/-! ### a database: its state, where it lies -/
structure Tx where
  num : Int
  rs : List (Option Str)
structure Row where
  rcd : Str
  val : V
  fate : Str
  holder : Int
  level : Int
structure Db where
  rows : List Row
  stack : List (Option Tx)
  entered : List Str
  floor : Int
  opened : Int
structure TxL where
  t : Addr
  dt : Addr
  q : Addr
structure Lay where
  db : Addr
  dx : Addr
  r : Addr
  s : Addr
  e : Addr
  ws : List (Addr × Addr)
  ts : List (Option TxL)
def oV : Option Str → V
  | none => .non
  | some z => .str z
def tV : Option TxL → V
  | none => .non
  | some t => .ref t.t
abbrev dbF (r s e : Addr) (f o : Int) : List (Str × V) := [("rows", .ref r), ("stack", .ref s), ("entered", .ref e), ("floor", .int f), ("opened", .int o)]
abbrev txF (n : Int) (q : Addr) : List (Str × V) := [("number", .int n), ("reasons", .ref q)]
abbrev rwF (w : Row) : List (Str × V) := [("record", .str w.rcd), ("value", w.val), ("fate", .str w.fate), ("holder", .int w.holder), ("level", .int w.level)]
def TxAt (aT : Addr) (H : Hp) : Option TxL → Option Tx → Prop
  | none, none => True
  | some t, some x => H t.t = some (.ins aT t.dt (txF x.num t.q)) ∧ H t.q = some (.lst (rv oV x.rs)) ∧ x.rs ≠ []
  | _, _ => False
def RowAt (aW : Addr) (H : Hp) (w : Addr × Addr) (x : Row) : Prop := H w.1 = some (.ins aW w.2 (rwF x))
structure DbAt (aD aT aW : Addr) (H : Hp) (L : Lay) (D : Db) : Prop where
  db : H L.db = some (.ins aD L.dx (dbF L.r L.s L.e D.floor D.opened))
  r : H L.r = some (.lst (L.ws.map fun w => .ref w.1))
  s : H L.s = some (.lst (rv tV L.ts))
  e : H L.e = some (.lst (rv V.str D.entered))
  rows : All2 (RowAt aW H) L.ws D.rows
  txs : All2 (TxAt aT H) L.ts D.stack
  rs : L.r ≠ L.s
  re : L.r ≠ L.e
  se : L.s ≠ L.e
  qn : ∀ t, some t ∈ L.ts → t.q ≠ L.r ∧ t.q ≠ L.s ∧ t.q ≠ L.e
  qd : L.ts.Pairwise fun x y => ∀ t u, x = some t → y = some u → t.q ≠ u.q
  wd : L.ws.Pairwise fun x y => x.1 ≠ y.1
  ne : D.stack ≠ []
/-- what may change -/
def Mut (L : Lay) (b : Addr) : Prop := b = L.db ∨ b = L.r ∨ b = L.s ∨ b = L.e ∨ (∃ t, some t ∈ L.ts ∧ b = t.q) ∨ ∃ w, w ∈ L.ws ∧ b = w.1
/-- all of it -/
def Foot (L : Lay) (b : Addr) : Prop := Mut L b ∨ ∃ t, some t ∈ L.ts ∧ b = t.t
structure Fr (H H' : Hp) (L L' : Lay) : Prop where
  kp : Kp (Mut L) H H'
  mt : ∀ b, Mut L' b → Mut L b ∨ H b = none
  db : L'.db = L.db
theorem Fr.refl {H : Hp} {L : Lay} : Fr H H L L := ⟨Kp.refl, fun _ h => .inl h, rfl⟩
theorem Fr.trans {H H1 H2 : Hp} {L L1 L2 : Lay} (a : Fr H H1 L L1) (b : Fr H1 H2 L1 L2) : Fr H H2 L L2 := by
  refine ⟨fun c u h n => ?_, fun c h => ?_, b.db.trans a.db⟩
  · refine b.kp c u (a.kp c u h n) fun z => ?_
    rcases a.mt c z with z | z
    · exact n z
    · rw [z] at h; cases h
  · rcases b.mt c h with z | z
    · exact a.mt c z
    · cases e : H c with
      | none => exact .inr rfl
      | some u =>
        by_cases hm : Mut L c
        · exact .inl hm
        · rw [a.kp c u e hm] at z; cases z
theorem Fr.of_kp {H H' : Hp} {L : Lay} (k : Kp (Mut L) H H') : Fr H H' L L := ⟨k, fun _ h => .inl h, rfl⟩
theorem Fr.new {H H' : Hp} {L L' : Lay} {p : Addr} {o : HO} (a : Fr H H' L L') (h : H' p = none) : Fr H (upd H' p o) L L' := ⟨a.kp.new h, a.mt, a.db⟩
/-- q is none of what may change -/
theorem Fr.out {H H' : Hp} {L L' : Lay} {b : Addr} {u : HO} (a : Fr H H' L L') (h : H b = some u) (n : ¬ Mut L b) : ¬ Mut L' b := fun z => by
  rcases a.mt b z with z | z
  · exact n z
  · rw [h] at z; cases z
section
variable {aD aT aW : Addr} {H H' : Hp} {L : Lay} {D : Db}
theorem TxAt.keep {x : Option TxL} {y : Option Tx} (h : TxAt aT H x y) (k : ∀ t, x = some t → (∀ u, H t.t = some u → H' t.t = some u) ∧ ∀ u, H t.q = some u → H' t.q = some u) : TxAt aT H' x y := by
  cases x with
  | none => cases y with
    | none => trivial
    | some y => exact h
  | some t => cases y with
    | none => exact h
    | some y =>
      obtain ⟨h1, h2, h3⟩ := h
      obtain ⟨k1, k2⟩ := k t rfl
      exact ⟨k1 _ h1, k2 _ h2, h3⟩
theorem DbAt.keep (h : DbAt aD aT aW H L D) (k : ∀ b u, Foot L b → H b = some u → H' b = some u) : DbAt aD aT aW H' L D := by
  refine ⟨k _ _ (.inl (.inl rfl)) h.db, k _ _ (.inl (.inr (.inl rfl))) h.r, k _ _ (.inl (.inr (.inr (.inl rfl)))) h.s, k _ _ (.inl (.inr (.inr (.inr (.inl rfl))))) h.e, ?_, ?_, h.rs, h.re, h.se, h.qn, h.qd, h.wd, h.ne⟩
  · exact h.rows.imp fun w x hw hx => k _ _ (.inl (.inr (.inr (.inr (.inr (.inr ⟨w, hw, rfl⟩)))))) hx
  · refine h.txs.imp fun x y hx hy => hy.keep fun t et => ?_
    subst et
    exact ⟨fun u => k _ u (.inr ⟨t, hx, rfl⟩), fun u => k _ u (.inl (.inr (.inr (.inr (.inr (.inl ⟨t, hx, rfl⟩))))))⟩
theorem DbAt.new {p : Addr} {o : HO} (h : DbAt aD aT aW H L D) (hp : H p = none) : DbAt aD aT aW (upd H p o) L D := h.keep fun b u _ e => upd_old e hp
theorem DbAt.tx (h : DbAt aD aT aW H L D) {t : TxL} (m : some t ∈ L.ts) : ∃ x : Tx, H t.t = some (.ins aT t.dt (txF x.num t.q)) ∧ H t.q = some (.lst (rv oV x.rs)) ∧ x.rs ≠ [] := by
  obtain ⟨y, _, hy⟩ := h.txs.mem m
  cases y with
  | none => exact hy.elim
  | some x => exact ⟨x, hy⟩
theorem DbAt.row (h : DbAt aD aT aW H L D) {w : Addr × Addr} (m : w ∈ L.ws) : ∃ x : Row, H w.1 = some (.ins aW w.2 (rwF x)) := by
  obtain ⟨y, _, hy⟩ := h.rows.mem m
  exact ⟨y, hy⟩
/-- what may change, is there -/
theorem DbAt.mut (h : DbAt aD aT aW H L D) {b : Addr} (m : Mut L b) : ∃ u, H b = some u := by
  rcases m with rfl | rfl | rfl | rfl | ⟨t, m, rfl⟩ | ⟨w, m, rfl⟩
  · exact ⟨_, h.db⟩
  · exact ⟨_, h.r⟩
  · exact ⟨_, h.s⟩
  · exact ⟨_, h.e⟩
  · obtain ⟨x, _, h2, _⟩ := h.tx m
    exact ⟨_, h2⟩
  · obtain ⟨x, h1⟩ := h.row m
    exact ⟨_, h1⟩
theorem DbAt.fresh (h : DbAt aD aT aW H L D) {b : Addr} (e : H b = none) : ¬ Mut L b := fun z => by
  obtain ⟨u, e2⟩ := h.mut z
  rw [e] at e2; cases e2
/-- a list that is none of its own changes -/
theorem DbAt.oth {p : Addr} {o : HO} {xs : List V} (h : DbAt aD aT aW H L D) (hp : H p = some (.lst xs)) (n : ¬ Mut L p) : DbAt aD aT aW (upd H p o) L D := h.keep fun b u f e => by
  refine upd_oth (fun z => ?_) e
  subst z
  rcases f with f | ⟨t, m, rfl⟩
  · exact n f
  · obtain ⟨x, h1, _⟩ := h.tx m
    rw [hp] at h1; cases h1
theorem DbAt.mutE : Mut L L.e := .inr (.inr (.inr (.inl rfl)))
theorem DbAt.mutS : Mut L L.s := .inr (.inr (.inl rfl))
theorem DbAt.mutD : Mut L L.db := .inl rfl
theorem DbAt.mutQ {t : TxL} (h : some t ∈ L.ts) : Mut L t.q := .inr (.inr (.inr (.inr (.inl ⟨t, h, rfl⟩))))
theorem ins_ne {b p C dx : Addr} {fs : List (Str × V)} {xs : List V} (h1 : H b = some (.ins C dx fs)) (h2 : H p = some (.lst xs)) : b ≠ p := fun z => by
  rw [z, h2] at h1; cases h1
theorem DbAt.rowsQ {p : Addr} {o : HO} {xs : List V} (h : DbAt aD aT aW H L D) (hp : H p = some (.lst xs)) : All2 (RowAt aW (upd H p o)) L.ws D.rows :=
  h.rows.imp fun w x hw hx => upd_oth (ins_ne hx hp) hx
theorem DbAt.txsQ {p : Addr} {o : HO} {xs : List V} (h : DbAt aD aT aW H L D) (hp : H p = some (.lst xs)) (n : ∀ t, some t ∈ L.ts → t.q ≠ p) : All2 (TxAt aT (upd H p o)) L.ts D.stack :=
  h.txs.imp fun x y hx hy => hy.keep fun t et => by
    subst et
    obtain ⟨z, h1, _⟩ := h.tx hx
    exact ⟨fun u e => upd_oth (ins_ne h1 hp) e, fun u e => upd_oth (n t hx) e⟩
theorem DbAt.setE (h : DbAt aD aT aW H L D) (es : List Str) : DbAt aD aT aW (upd H L.e (.lst (rv V.str es))) L { D with entered := es } :=
  ⟨upd_oth (ins_ne h.db h.e) h.db, upd_oth h.re h.r, upd_oth h.se h.s, upd_same, h.rowsQ h.e, h.txsQ h.e fun t m => (h.qn t m).2.2, h.rs, h.re, h.se, h.qn, h.qd, h.wd, h.ne⟩
theorem DbAt.setS (h : DbAt aD aT aW H L D) {ts : List (Option TxL)} {st : List (Option Tx)} (a : All2 (TxAt aT (upd H L.s (.lst (rv tV ts)))) ts st) (qn : ∀ t, some t ∈ ts → t.q ≠ L.r ∧ t.q ≠ L.s ∧ t.q ≠ L.e) (qd : ts.Pairwise fun x y => ∀ t u, x = some t → y = some u → t.q ≠ u.q) (ne : st ≠ []) :
    DbAt aD aT aW (upd H L.s (.lst (rv tV ts))) { L with ts := ts } { D with stack := st } :=
  ⟨upd_oth (ins_ne h.db h.s) h.db, upd_oth h.rs h.r, upd_same, upd_oth (Ne.symm h.se) h.e, h.rowsQ h.s, a, h.rs, h.re, h.se, qn, qd, h.wd, ne⟩
theorem DbAt.pushN (h : DbAt aD aT aW H L D) : DbAt aD aT aW (upd H L.s (.lst (rv tV (none :: L.ts)))) { L with ts := none :: L.ts } { D with stack := none :: D.stack } := by
  refine h.setS (.cons trivial (h.txsQ h.s fun t m => (h.qn t m).2.1)) (fun t m => ?_) ?_ (by simp)
  · rcases List.mem_cons.mp m with m | m
    · cases m
    · exact h.qn t m
  · exact List.pairwise_cons.mpr ⟨fun y _ t u e => (by cases e), h.qd⟩
theorem DbAt.pushT (h : DbAt aD aT aW H L D) {t : TxL} {n : Int} {rs : List (Option Str)} (h1 : H t.t = some (.ins aT t.dt (txF n t.q))) (h2 : H t.q = some (.lst (rv oV rs))) (hr : rs ≠ []) (hn : ¬ Mut L t.q) :
    DbAt aD aT aW (upd H L.s (.lst (rv tV (some t :: L.ts)))) { L with ts := some t :: L.ts } { D with stack := some ⟨n, rs⟩ :: D.stack } := by
  have ns : t.q ≠ L.s := fun z => hn (z ▸ DbAt.mutS)
  refine h.setS (.cons ⟨upd_oth (ins_ne h1 h.s) h1, upd_oth ns h2, hr⟩ (h.txsQ h.s fun t m => (h.qn t m).2.1)) (fun u m => ?_) ?_ (by simp)
  · rcases List.mem_cons.mp m with m | m
    · cases m
      exact ⟨fun z => hn (.inr (.inl z)), ns, fun z => hn (z ▸ DbAt.mutE)⟩
    · exact h.qn u m
  · refine List.pairwise_cons.mpr ⟨fun y hy u v e1 e2 z => ?_, h.qd⟩
    cases e1
    subst e2
    exact hn (z ▸ DbAt.mutQ hy)
theorem DbAt.popS {t : Option TxL} {ts : List (Option TxL)} {x : Option Tx} {st : List (Option Tx)} (h : DbAt aD aT aW H L D) (et : L.ts = t :: ts) (es : D.stack = x :: st) (ne : st ≠ []) :
    DbAt aD aT aW (upd H L.s (.lst (rv tV ts))) { L with ts := ts } { D with stack := st } := by
  have a : All2 (TxAt aT (upd H L.s (.lst (rv tV ts)))) (t :: ts) (x :: st) := by
    have := h.txsQ (o := .lst (rv tV ts)) h.s fun t m => (h.qn t m).2.1
    rw [et, es] at this; exact this
  cases a with
  | cons _ a =>
    refine h.setS a (fun u m => h.qn u (by rw [et]; exact List.mem_cons_of_mem _ m)) ?_ ne
    have := h.qd
    rw [et] at this
    exact (List.pairwise_cons.mp this).2
theorem DbAt.setD (h : DbAt aD aT aW H L D) (f o : Int) : DbAt aD aT aW (upd H L.db (.ins aD L.dx (dbF L.r L.s L.e f o))) L { D with floor := f, opened := o } := by
  refine ⟨upd_same, upd_oth (Ne.symm (ins_ne h.db h.r)) h.r, upd_oth (Ne.symm (ins_ne h.db h.s)) h.s, upd_oth (Ne.symm (ins_ne h.db h.e)) h.e, ?_, ?_, h.rs, h.re, h.se, h.qn, h.qd, h.wd, h.ne⟩
  · refine h.rows.imp fun w x hw hx => upd_oth (fun z => ?_) hx
    unfold RowAt at hx
    rw [z, h.db] at hx
    injection hx with hx
    injection hx with _ _ hx
    exact absurd (congrArg Prod.fst (List.cons.inj hx).1) (show ¬ (("rows" : Str) = "record") by decide +kernel)
  · refine h.txs.imp fun x y hx hy => hy.keep fun t et => ?_
    subst et
    obtain ⟨z, h1, h2, _⟩ := h.tx hx
    refine ⟨fun u e => upd_oth (fun z => ?_) e, fun u e => upd_oth (Ne.symm (ins_ne h.db h2)) e⟩
    rw [z, h.db] at h1
    injection h1 with h1
    injection h1 with _ _ h1
    exact absurd (congrArg List.length h1) (by simp)
theorem DbAt.setQ {t : TxL} {ts : List (Option TxL)} {x : Tx} {st : List (Option Tx)} {rs : List (Option Str)} (h : DbAt aD aT aW H L D) (et : L.ts = some t :: ts) (es : D.stack = some x :: st) (hr : rs ≠ []) :
    DbAt aD aT aW (upd H t.q (.lst (rv oV rs))) L { D with stack := some ⟨x.num, rs⟩ :: st } := by
  have mt : some t ∈ L.ts := by rw [et]; exact List.mem_cons_self
  have a := h.txs
  rw [et, es] at a
  cases a with
  | cons a0 a =>
    obtain ⟨h1, h2, h3⟩ := a0
    obtain ⟨n1, n2, n3⟩ := h.qn t mt
    have qd := h.qd
    rw [et] at qd
    obtain ⟨qd1, _⟩ := List.pairwise_cons.mp qd
    refine ⟨upd_oth (ins_ne h.db h2) h.db, upd_oth (Ne.symm n1) h.r, upd_oth (Ne.symm n2) h.s, upd_oth (Ne.symm n3) h.e, h.rowsQ h2, ?_, h.rs, h.re, h.se, h.qn, h.qd, h.wd, by simp⟩
    rw [et]
    refine .cons ⟨upd_oth (ins_ne h1 h2) h1, upd_same, hr⟩ (a.imp fun z y hz hy => hy.keep fun u eu => ?_)
    subst eu
    obtain ⟨z, k1, _⟩ := h.tx (t := u) (by rw [et]; exact List.mem_cons_of_mem _ hz)
    exact ⟨fun o e => upd_oth (ins_ne k1 h2) e, fun o e => upd_oth (fun z => qd1 _ hz t u rfl rfl z.symm) e⟩
theorem Fr.set {b : Addr} {o : HO} (m : Mut L b) : Fr H (upd H b o) L L := .of_kp (Kp.refl.set m)
theorem Mut.ts {ts : List (Option TxL)} {b : Addr} (h : Mut { L with ts := ts } b) (k : ∀ t, some t ∈ ts → b = t.q → Mut L b ∨ H b = none) : Mut L b ∨ H b = none := by
  rcases h with h | h | h | h | ⟨t, m, h⟩ | h
  · exact .inl (.inl h)
  · exact .inl (.inr (.inl h))
  · exact .inl (.inr (.inr (.inl h)))
  · exact .inl (.inr (.inr (.inr (.inl h))))
  · exact k t m h
  · exact .inl (.inr (.inr (.inr (.inr (.inr h)))))
theorem Fr.pushT {t : TxL} {o : HO} (k : Kp (Mut L) H H') (hq : H t.q = none) : Fr H (upd H' L.s o) L { L with ts := some t :: L.ts } := by
  refine ⟨k.set DbAt.mutS, fun b hb => hb.ts fun u m e => ?_, rfl⟩
  rcases List.mem_cons.mp m with m | m
  · cases m
    exact .inr (e ▸ hq)
  · exact .inl (e ▸ DbAt.mutQ m)
theorem Fr.pushN {o : HO} : Fr H (upd H L.s o) L { L with ts := none :: L.ts } := by
  refine ⟨Kp.refl.set DbAt.mutS, fun b hb => hb.ts fun u m e => ?_, rfl⟩
  rcases List.mem_cons.mp m with m | m
  · cases m
  · exact .inl (e ▸ DbAt.mutQ m)
theorem Fr.popS {t : Option TxL} {ts : List (Option TxL)} {o : HO} (et : L.ts = t :: ts) : Fr H (upd H L.s o) L { L with ts := ts } := by
  refine ⟨Kp.refl.set DbAt.mutS, fun b hb => hb.ts fun u m e => ?_, rfl⟩
  exact .inl (e ▸ DbAt.mutQ (by rw [et]; exact List.mem_cons_of_mem _ m))
theorem Fr.same (k : Same H H') : Fr H H' L L := .of_kp (.of_same k)
/-- the top: None or a transaction -/
theorem DbAt.top (h : DbAt aD aT aW H L D) : (∃ ts st, L.ts = none :: ts ∧ D.stack = none :: st) ∨
    ∃ t ts x st y rs, L.ts = some t :: ts ∧ D.stack = some x :: st ∧ x.rs = y :: rs ∧ H t.t = some (.ins aT t.dt (txF x.num t.q)) ∧ H t.q = some (.lst (rv oV (y :: rs))) := by
  have a := h.txs
  have n := h.ne
  generalize L.ts = ts0 at a
  generalize D.stack = st0 at a n
  cases a with
  | nil => exact absurd rfl n
  | @cons x y l m r a =>
    cases x with
    | none => cases y with
      | none => exact .inl ⟨_, _, rfl, rfl⟩
      | some y => exact r.elim
    | some t => cases y with
      | none => exact r.elim
      | some x =>
        obtain ⟨r1, r2, r3⟩ := r
        obtain ⟨num, rs⟩ := x
        cases rs with
        | nil => exact absurd rfl r3
        | cons y rs => exact .inr ⟨t, _, ⟨num, y :: rs⟩, _, y, rs, rfl, rfl, rfl, r1, r2⟩
end
/-! ### the rows of a database -/
theorem All2.get {α β : Type} {R : α → β → Prop} {l : List α} {m : List β} (a : All2 R l m) : ∀ {i : Nat} {x : α}, l[i]? = some x → ∃ y, m[i]? = some y ∧ R x y := by
  induction a with
  | nil => intro i x h; simp at h
  | cons r _ ih =>
    intro i x h
    cases i with
    | zero =>
      cases h
      exact ⟨_, rfl, r⟩
    | succ i => exact ih h
theorem All2.setR {α β : Type} {R S : α → β → Prop} {l : List α} {m : List β} (a : All2 R l m) : ∀ {i : Nat} {x : α} {y : β}, l[i]? = some x → S x y → (∀ j x' y', j ≠ i → l[j]? = some x' → R x' y' → S x' y') → All2 S l (m.set i y) := by
  induction a with
  | nil => intro i x y h; simp at h
  | @cons u v l m r t ih =>
    intro i x y h s k
    cases i with
    | zero =>
      cases h
      refine .cons s ?_
      have k' : ∀ j x' y', l[j]? = some x' → R x' y' → S x' y' := fun j x' y' e q => k (j + 1) x' y' (by omega) e q
      clear ih k
      induction t with
      | nil => exact .nil
      | cons r2 _ ih2 => exact .cons (k' 0 _ _ rfl r2) (ih2 fun j x' y' e q => k' (j + 1) x' y' e q)
    | succ i => exact .cons (k 0 _ _ (by omega) rfl r) (ih h s fun j x' y' n e q => k (j + 1) x' y' (by omega) e q)
theorem All2.snoc {α β : Type} {R : α → β → Prop} {l : List α} {m : List β} {x : α} {y : β} (a : All2 R l m) (r : R x y) : All2 R (l ++ [x]) (m ++ [y]) := by
  induction a with
  | nil => exact .cons r .nil
  | cons r' _ ih => exact .cons r' ih
section
variable {aD aT aW : Addr} {H H' : Hp} {L : Lay} {D : Db}
theorem row_ne_db {w : Addr × Addr} {x : Row} (h : DbAt aD aT aW H L D) (hx : H w.1 = some (.ins aW w.2 (rwF x))) : L.db ≠ w.1 := fun z => by
  rw [← z, h.db] at hx
  injection hx with hx
  injection hx with _ _ hx
  exact absurd (congrArg Prod.fst (List.cons.inj hx).1) (show ¬ (("rows" : Str) = "record") by decide +kernel)
theorem row_ne_tx {w : Addr × Addr} {x : Row} (h : DbAt aD aT aW H L D) (hx : H w.1 = some (.ins aW w.2 (rwF x))) {t : TxL} (m : some t ∈ L.ts) : t.t ≠ w.1 := fun z => by
  obtain ⟨y, h1, _⟩ := h.tx m
  rw [← z, h1] at hx
  injection hx with hx
  injection hx with _ _ hx
  exact absurd (congrArg List.length hx) (by simp)
theorem DbAt.mutW {w : Addr × Addr} (h : w ∈ L.ws) : Mut L w.1 := .inr (.inr (.inr (.inr (.inr ⟨w, h, rfl⟩))))
theorem DbAt.mutR : Mut L L.r := .inr (.inl rfl)
theorem DbAt.setRow {i : Nat} {w : Addr × Addr} {x' : Row} (h : DbAt aD aT aW H L D) (hw : L.ws[i]? = some w) : DbAt aD aT aW (upd H w.1 (.ins aW w.2 (rwF x'))) L { D with rows := D.rows.set i x' } := by
  obtain ⟨x, _, hx⟩ := h.rows.get hw
  have hx : H w.1 = some (.ins aW w.2 (rwF x)) := hx
  refine ⟨upd_oth (row_ne_db h hx) h.db, upd_oth (Ne.symm (ins_ne hx h.r)) h.r, upd_oth (Ne.symm (ins_ne hx h.s)) h.s, upd_oth (Ne.symm (ins_ne hx h.e)) h.e, ?_, ?_, h.rs, h.re, h.se, h.qn, h.qd, h.wd, h.ne⟩
  · refine h.rows.setR hw upd_same fun j v y n hv hy => upd_oth (fun z => ?_) hy
    have hi : i < L.ws.length := (List.getElem?_eq_some_iff.mp hw).1
    have hj : j < L.ws.length := (List.getElem?_eq_some_iff.mp hv).1
    have wi : L.ws[i] = w := (List.getElem?_eq_some_iff.mp hw).2
    have wj : L.ws[j] = v := (List.getElem?_eq_some_iff.mp hv).2
    rcases Nat.lt_or_gt_of_ne n with lt | gt
    · exact (List.pairwise_iff_getElem.mp h.wd j i hj hi lt) (by rw [wi, wj]; exact z)
    · exact (List.pairwise_iff_getElem.mp h.wd i j hi hj gt) (by rw [wi, wj]; exact z.symm)
  · refine h.txs.imp fun t y ht hy => hy.keep fun u eu => ?_
    subst eu
    obtain ⟨z, _, h2, _⟩ := h.tx ht
    exact ⟨fun o e => upd_oth (row_ne_tx h hx ht) e, fun o e => upd_oth (Ne.symm (ins_ne hx h2)) e⟩
theorem DbAt.addRow {w : Addr × Addr} {x : Row} (h : DbAt aD aT aW H L D) (hx : H w.1 = some (.ins aW w.2 (rwF x))) (hn : ¬ Mut L w.1) :
    DbAt aD aT aW (upd H L.r (.lst ((L.ws ++ [w]).map fun w => .ref w.1))) { L with ws := L.ws ++ [w] } { D with rows := D.rows ++ [x] } := by
  refine ⟨upd_oth (ins_ne h.db h.r) h.db, upd_same, upd_oth (Ne.symm h.rs) h.s, upd_oth (Ne.symm h.re) h.e, (h.rowsQ h.r).snoc (upd_oth (ins_ne hx h.r) hx), h.txsQ h.r fun t m => (h.qn t m).1, h.rs, h.re, h.se, h.qn, h.qd, ?_, h.ne⟩
  refine List.pairwise_append.mpr ⟨h.wd, List.pairwise_singleton _ _, fun v hv u hu => ?_⟩
  rcases List.mem_singleton.mp hu with rfl
  exact fun z => hn (z ▸ DbAt.mutW hv)
theorem Fr.addRow {w : Addr × Addr} {o : HO} (k : Kp (Mut L) H H') (hq : H w.1 = none) : Fr H (upd H' L.r o) L { L with ws := L.ws ++ [w] } := by
  refine ⟨k.set DbAt.mutR, fun b hb => ?_, rfl⟩
  rcases hb with hb | hb | hb | hb | hb | ⟨v, hv, hb⟩
  · exact .inl (.inl hb)
  · exact .inl (.inr (.inl hb))
  · exact .inl (.inr (.inr (.inl hb)))
  · exact .inl (.inr (.inr (.inr (.inl hb))))
  · exact .inl (.inr (.inr (.inr (.inr (.inl hb)))))
  · rcases List.mem_append.mp hv with hv | hv
    · exact .inl (hb ▸ DbAt.mutW hv)
    · rcases List.mem_singleton.mp hv with rfl
      exact .inr (hb ▸ hq)
end
/-! ### held records -/
def heldS (ns : List Int) (l : List Str) (x : Row) : List Str := if x.fate = "open" ∧ x.holder ∈ ns then addT x.rcd l else l
def heldL (rows : List Row) (ns : List Int) : List Str := rows.foldl (heldS ns) []
theorem held_fold (ns : List Int) : ∀ (rows : List Row) (l : List Str), (∀ k, k ∈ rows.foldl (heldS ns) l ↔ k ∈ l ∨ ∃ x ∈ rows, x.fate = "open" ∧ x.holder ∈ ns ∧ x.rcd = k) ∧ (l.Nodup → (rows.foldl (heldS ns) l).Nodup) ∧ (rows.foldl (heldS ns) l).length ≤ l.length + rows.length
  | [], l => ⟨fun k => by simp, id, by simp⟩
  | x :: r, l => by
    obtain ⟨h1, h2, h3⟩ := held_fold ns r (heldS ns l x)
    refine ⟨fun k => ?_, fun h => h2 ?_, ?_⟩
    · rw [List.foldl_cons, h1 k]
      have e : k ∈ heldS ns l x ↔ k ∈ l ∨ (x.fate = "open" ∧ x.holder ∈ ns ∧ x.rcd = k) := by
        unfold heldS
        split
        · rename_i c
          rw [addT_mem]
          exact ⟨fun z => z.elim (fun e => .inr ⟨c.1, c.2, e.symm⟩) .inl, fun z => z.elim .inr fun e => .inl e.2.2.symm⟩
        · rename_i c
          exact ⟨.inl, fun z => z.elim id fun e => absurd ⟨e.1, e.2.1⟩ c⟩
      rw [e]
      constructor
      · rintro ((h | h) | ⟨y, hy, h⟩)
        · exact .inl h
        · exact .inr ⟨x, List.mem_cons_self, h⟩
        · exact .inr ⟨y, List.mem_cons_of_mem _ hy, h⟩
      · rintro (h | ⟨y, hy, h⟩)
        · exact .inl (.inl h)
        · rcases List.mem_cons.mp hy with rfl | hy
          · exact .inl (.inr h)
          · exact .inr ⟨y, hy, h⟩
    · unfold heldS
      split
      · exact addT_nd h
      · exact h
    · rw [List.foldl_cons, List.length_cons]
      have e : (heldS ns l x).length ≤ l.length + 1 := by
        unfold heldS
        split
        · exact addT_len
        · omega
      omega
theorem held_mem {rows : List Row} {ns : List Int} {k : Str} : k ∈ heldL rows ns ↔ ∃ x ∈ rows, x.fate = "open" ∧ x.holder ∈ ns ∧ x.rcd = k := by
  have := (held_fold ns rows []).1 k
  simpa [heldL] using this
theorem held_nd {rows : List Row} {ns : List Int} : (heldL rows ns).Nodup := (held_fold ns rows []).2.1 List.nodup_nil
theorem held_len {rows : List Row} {ns : List Int} : (heldL rows ns).length ≤ rows.length := by
  have := (held_fold ns rows []).2.2
  simpa [heldL] using this
theorem held_take {rows : List Row} {ns : List Int} {i : Nat} {x : Row} (h : rows[i]? = some x) : heldL (rows.take (i + 1)) ns = heldS ns (heldL (rows.take i) ns) x := by
  unfold heldL
  rw [List.take_add_one, h, List.foldl_append]; rfl
/-- the numbers of some transactions, the last first -/
def numsO (st : List (Option Tx)) : List Int := (st.filterMap fun t => t.map (·.num)).reverse
/-! ### sorted(dict of texts) -/
section
open PySem PySem.Spec PyProof.Rows
theorem strs_nth : ∀ {vs : List Value} {xs : List Str}, vs.length = xs.length → (∀ (j : Nat) (v : Value), vs[j]? = some v → ∃ x t, xs[j]? = some x ∧ v = .str x t) → StrsAre vs xs
  | [], [], _, _ => .nil
  | v :: vs, x :: xs, hl, h => by
    obtain ⟨y, t, e, rfl⟩ := h 0 v rfl
    cases e
    exact .cons _ _ (strs_nth (Nat.succ.inj hl) fun j u e => h (j + 1) u e)
  | [], _ :: _, hl, _ => nomatch hl
  | _ :: _, [], hl, _ => nomatch hl
section
variable {P : Program} {w : World} {A : Around} {E : Value → Shared → Prop} {s : Shared} {T : String} {r d : Addr} {n : Nat} {Pv : Nat → Value → Prop} {OK : Heap → Prop}
/-- collecting from a dict: the heap grows -/
theorem collect_more {R : List Value → Shared → Prop} (S : PySem.W.KdlSrc P w T r d n Pv OK) (hh : A.handled = none) (ho : OK s.heap) (hn : n ≤ sizeLine)
    (q : ∀ (h' : Heap) (tk : Nat) (acc : Array Value), (∀ b o, s.heap.get? b = some o → h'.get? b = some o) → s.heap.objs.size < h'.objs.size → ItemsOf Pv acc n → R acc.toList { s with heap := h', toks := tk }) : wpAny (model P w) A (collect (.ref r)) R E s := by
  have lt := S.there _ ho
  have new0 : (s.heap.push { cls := .type "list", data := .seq ([] : List Value).toArray }).get? s.heap.objs.size = some { cls := .type "list", data := .seq #[] } := Heap.get?_push_size _ rfl
  unfold collect
  refine wpAny_bind (wpAny_runValue (codeAny_builtin entry_proto_collect' ?_)); rw [Around.under_plainId PySem.F.plain_proto_collect _]
  show wpAny _ A.in1 (newList [] >>= fun l => again (.builtin "list.__iadd__" ⟨[l, .ref r], []⟩)) _ _ s; refine wpAny_bind (wpAny_newObj_type (wpAny_pure ⟨plainId_quiet PySem.F.plain_list_iadd _, codeAny_builtin entry_list_iadd' ?_⟩)); rw [Around.under_plainId PySem.F.plain_list_iadd _]
  refine wpAny_mono (PySem.W.kdl_extend (A := A) (s := { s with heap := s.heap.push { cls := .type "list", data := .seq ([] : List Value).toArray } })
    (R := fun (z : Result) (s2 : Shared) => ∃ (g : Heap) (t : Nat) (ac : Array Value) (c : Nat), z = .ok (.ret (.ref s.heap.objs.size)) ∧ s2 = { s with heap := g, toks := t } ∧ (∀ b o, s.heap.get? b = some o → g.get? b = some o) ∧ g.get? s.heap.objs.size = some { cls := .type "list", dict := none, data := .seq ac c, slots := #[] } ∧ ItemsOf Pv ac n)
    S hh (S.keep _ _ ho fun b _ o e => Heap.get?_push_of_some _ e) s.heap.objs.size (Nat.ne_of_gt lt.1) (Nat.ne_of_gt lt.2) (.ref s.heap.objs.size) 0 new0 (fun g t ac c k hS ha => ⟨g, t, ac, c, rfl, rfl, fun b o e => k b o (Nat.ne_of_lt (Heap.lt_size e)) (Heap.get?_push_of_some _ e), hS, ha⟩) hn) (fun fin s2 x => ?_) fun e s2 x => ?_
  · match fin, x with
    | .done f, ⟨g, t, ac, c, e, es, k, hS, ha⟩ =>
      subst es; cases e
      show wpAny _ A (load s.heap.objs.size >>= _) _ _ _; exact wpAny_bind (wpAny_load hS (wpAny_pure (q g t ac k (Heap.lt_size hS) ha)))
    | .again c1, x =>
      refine ⟨x.1, codeAny_mono x.2 fun z s3 y => ?_⟩
      obtain ⟨g, t, ac, c, rfl, rfl, k, hS, ha⟩ := y
      show wpAny _ A (load s.heap.objs.size >>= _) _ _ _; exact wpAny_bind (wpAny_load hS (wpAny_pure (q g t ac k (Heap.lt_size hS) ha)))
  · obtain ⟨_, _, _, _, z, _⟩ := x
    cases z
end
section
variable {X : Cx}
/-- sorted(d), d a dict with texts as keys -/
theorem cr_sortDK (hc : X.calm = true) : CallR X (.builtin "sorted") (fun vs H Q => ∃ (a : Addr) (kvs : List (Key × V)) (xs : List Str), vs = [V.ref a] ∧ H a = some (.dK kvs) ∧ kvs.map (·.1) = xs.map Sum.inr ∧ ∀ p, H p = none → Q (.ref p) (upd H p (.lst ((sortT xs).map V.str)))) := by
  intro pins s σ H vs us Q I r h
  obtain ⟨a, kvs, xs, rfl, ha, hk, q⟩ := h
  rw [Vals.ref1 r]
  obtain ⟨z, hd, ws, rel, dd⟩ := dk_of I.hok ha
  obtain ⟨ep, hat⟩ := dd.dictAt
  have hks : ws.map (·.1) = xs.map Sum.inr := rel.keys ▸ hk
  have hlw : ws.length = xs.length := by
    have := congrArg List.length hks
    rwa [List.length_map, List.length_map] at this
  have hlx : xs.length ≤ sizeLine := by rw [← hlw, ← rel.length]; exact z
  refine Calls.call_function_entry kind_sorted plain_sorted entry_sorted (args_sorted1 _) ?_
  unfold Builtin.«sorted»
  refine wpAny_bind (m := checkCount "sorted" 1 1 _) (wpAny_pure (wpAny_bind (collect_more (A := X.A.in1) (PySem.W.kdl_dict (knd := mixKind X.prog X.w) (kvs := ws) (ep := ep) hd) (I.ok.hd hc) hat (by rw [hlw]; exact hlx) fun h' tk acc k1 hlt hacc => ?_)))
  have hl : acc.toList.length = xs.length := by rw [Array.length_toList, ← hlw]; exact hacc.1
  have hS : StrsAre acc.toList xs := strs_nth hl fun j v hv => by
    obtain ⟨k, x, e, hi⟩ := hacc.2 j v (by rw [← Array.getElem?_toList]; exact hv)
    have hx : (xs.map Sum.inr : List Key)[j]? = some k := by rw [← hks, List.getElem?_map, e]; rfl
    rw [List.getElem?_map] at hx
    cases ex : xs[j]? with
    | none => rw [ex] at hx; cases hx
    | some y =>
      rw [ex] at hx
      cases hx
      rcases keyIs_shape (show keyIs (Sum.inr y) v = true from hi) with ⟨i, t, e1, e2⟩ | ⟨x', t, e1, e2⟩
      · cases e1
      · cases e1
        exact ⟨_, t, rfl, e2⟩
  have hL : acc.toList.length ≤ sizeLine := by rw [hl]; exact hlx
  refine wpAny_bind (wpAny_newList ?_ hL)
  have hoL : (h'.push (seqObj "list" acc.toList.toArray 0)).get? h'.objs.size = some (seqObj "list" acc.toList.toArray 0) := Heap.get?_push_size _ rfl
  refine wpAny_bind (wpAny_holding (wpAny_call_entry slot_list_sort ⟨_, hoL, rfl⟩ entry_list_sort (list_sort_treeKAny strKind_oneLt hoL hS.keysOf (fun v₁ v₂ rest e => keyKind_strs (by rw [← e]; exact hS)) hL fun st' hp hs => ⟨_, rfl, ?_⟩) (args_list_sort _)))
  obtain ⟨ys, h1, h2, h3⟩ := sorted_out_str hS hp hs
  obtain ⟨c, hcc⟩ := sortedHeap_at (vs := acc.toList) (out := (arrOf st').map (·.2)) hoL
  rw [sortT_of h2 h3] at h1
  have hge : s.heap.objs.size ≤ h'.objs.size := Nat.le_of_lt hlt
  have hn : H h'.objs.size = none := I.hok.fresh hge
  have k2 : ∀ b o, s.heap.get? b = some o → (sortedHeap (h'.push (seqObj "list" acc.toList.toArray 0)) h'.objs.size acc.toList ((arrOf st').map (·.2))).get? b = some o := fun b u e => by
    have q := k1 b u e
    have lt := Heap.lt_size q
    rw [sortedHeap_old (Nat.ne_of_lt lt) (by rw [size_push']; exact Nat.lt_succ_of_lt lt)]
    exact Heap.get?_push_of_some _ q
  refine wpAny_pure ⟨_, rfl, ?_⟩
  exact ⟨.ref h'.objs.size, upd H h'.objs.size (.lst ((sortT xs).map V.str)), I.laid (t' := tk) k2 hge ⟨by rw [List.length_map, sortT_len]; exact hlx, ((arrOf st').map (·.2)).toList, c, vals_of_strs h1, hcc⟩, rfl, q _ hn⟩
end
end
/-! ### for in a generator's body -/
section
open PySem.Spec PyProof.Rows GenW
section
variable {M : Model} {A : Around} {R : GenEnd} {Y : Protocol} {n : Nat} {s₀ : Shared} {c : Code} {fs : List Frame} {s : Shared} {env : Env} {K : Flow → Sem PySem.Fin} {H : Value → Sem PySem.Fin} {gd : Bool → Bool} {lv : List Value → List Value}
theorem seg_For {target iter : Expr} {body orelse : List Stmt} {pos : Pos}
    (h : wpAny M (A.over c fs) (eval iter env) (fun x s₁ => wpAny M (A.over c fs) (pyIter x) (fun it s₂ => ∀ p, Seg M A R Y n s₀ (.forLoop target it body orelse env) (M.den (.forLoop target it body orelse env))
      (.ret (fun r => ((match r with | .ok f => (.pure f : Sem Flow) | .error e => .raise e).onRaise (cameBack env)).wrap K H gd lv) none (gd false) (lv []) c p [] :: fs) s₂)
        (fun x s' => Seg M A R Y n s₀ c (H x) fs s') s₁) (fun x s' => Seg M A R Y n s₀ c (H x) fs s') s)
    (hs : ∀ x, foldedSetIterable iter env x = pure x) :
    Seg M A R Y n s₀ c ((exec (.For target iter body orelse pos) env).wrap K H gd lv) fs s := by
  rw [exec_For]
  refine seg_bind_wrap (wpAny_standAt ?_)
  refine seg_bind_wrap (wpAny_mono h (fun x s₁ h₁ => ?_) fun _ _ h' => h')
  refine seg_bind_wrap (wpAny_of_eq (hs x) ?_)
  refine seg_bind_wrap (wpAny_standAt ?_)
  refine seg_bind_wrap (wpAny_holding (wpAny_mono h₁ (fun it s₂ h₂ => ?_) fun _ _ h' => h'))
  exact seg_call h₂
end
section
variable {prog : Program} {w : World} {A : Around} {R : GenEnd} {Y : Protocol} {n : Nat} {s₀ : Shared} {fs : List Frame} {s : Shared} {env : Env}
theorem seg_forLoop {target : Expr} {it : Value} {body : List Stmt}
    (h : wpAny (model prog w) (A.over (.forLoop target it body [] env) fs) (pyNext it) (fun r s₁ => match r with
        | none => Seg (model prog w) A R Y n s₀ (.block [] env) (leafOf (.ok .next)) fs s₁
        | some v => wpAny (model prog w) (A.over (.forLoop target it body [] env) fs) (letOwnedTupleGo target it v) (fun _ s₂ => wpAny (model prog w) (A.over (.forLoop target it body [] env) fs) (assign target env v) (fun _ s₃ =>
          Seg (model prog w) A R Y n s₀ (.forLoop target it body [] env) ((execs body env).wrap (fun f => match f with
            | .next | .cont => .pure (.again (.forLoop target it body [] env))
            | .brk => .pure (.done .next)
            | .ret v => .pure (.done (.ret v))) (fun e => (do noteFrame e env; theTreesLotGoes e : Sem Unit).wrap (fun _ => .raise e) .raise id id) id id) fs s₃)
          (fun x s' => Seg (model prog w) A R Y n s₀ (.forLoop target it body [] env) ((do noteFrame x env; theTreesLotGoes x : Sem Unit).wrap (fun _ => .raise x) .raise id id) fs s') s₂)
          (fun x s' => Seg (model prog w) A R Y n s₀ (.forLoop target it body [] env) ((do noteFrame x env; theTreesLotGoes x : Sem Unit).wrap (fun _ => .raise x) .raise id id) fs s') s₁)
      (fun x s' => Seg (model prog w) A R Y n s₀ (.forLoop target it body [] env) ((do noteFrame x env; theTreesLotGoes x : Sem Unit).wrap (fun _ => .raise x) .raise id id) fs s') s) :
    Seg (model prog w) A R Y n s₀ (.forLoop target it body [] env) ((model prog w).den (.forLoop target it body [] env)) fs s := by
  show Seg _ A R Y n s₀ _ ((forTurn target it body [] env).onRaise (fun x => do noteFrame x env; theTreesLotGoes x)) fs s
  have eE : ∀ x : Value, ((do noteFrame x env; theTreesLotGoes x : Sem Unit).bind fun _ => (.raise x : Sem PySem.Fin)) = (do noteFrame x env; theTreesLotGoes x : Sem Unit).wrap (fun _ => .raise x) .raise id id := fun x => Sem.bind_eq_wrap _ _
  rw [Sem.onRaise_eq_wrap]
  simp only [eE]
  unfold forTurn
  refine seg_bind_wrap (wpAny_standAt ?_)
  refine seg_bind_wrap (wpAny_onRaise (wpAny_mono h (fun r s₁ h₁ => ?_) fun _ _ h' => wpAny_standAt h'))
  cases r with
  | none => exact seg_again rfl h₁
  | some v =>
    refine seg_bind_wrap (wpAny_mono h₁ (fun _ s₂ h₂ => ?_) fun _ _ h' => h')
    refine seg_bind_wrap (wpAny_mono h₂ (fun _ s₃ h₃ => ?_) fun _ _ h' => h')
    rw [Sem.bind_eq_wrap', Sem.wrap_wrap]
    rw [Sem.wrap_congr (execs body env) _ _ (K' := fun f => match f with
            | .next | .cont => .pure (.again (.forLoop target it body [] env))
            | .brk => .pure (.done .next)
            | .ret v => .pure (.done (.ret v))) (H' := (fun e => (do noteFrame e env; theTreesLotGoes e : Sem Unit).wrap (fun _ => .raise e) .raise id id))
        (fun f => by cases f <;> rfl) (fun e => by rfl)]
    exact h₃
end
section
variable {X : Cx} {tg : Expr}
def tGFor (wi : TI) (g : TG) (tb : TGn) : TGn := fun D ys σ H => wi σ H fun J H1 => ∃ W : Nat → Nat → List V → L2.St → Hp → Prop, (∃ m, W 0 m ys σ H1) ∧ ∀ i m ys σ H, W i m ys σ H →
  (J.stop i H ∧ D.nx ys σ H) ∨ (J.go i H ∧ ∃ N : List V → L2.St → Hp → Prop, (∀ ys' σ' H', N ys' σ' H' → ∃ m', m' < m ∧ W (i + 1) m' ys' σ' H') ∧ ∀ x H', J.yld i H x H' → g x σ H' fun σ2 H2 => tb { D with nx := N, ct := N, bk := D.nx } ys σ2 H2)
theorem gs_for {iter : Expr} {body : List Stmt} {wi : TI} {g : TG} {tb : TGn} {pos : Pos} (hp : PassesOwn (model X.prog X.w) X.A X.env X.xe) (hc : X.calm = true) (hi : PI X tg iter wi) (hg : PG X tg g) (hb : GSs X body tb)
    (hs : ∀ x, foldedSetIterable iter X.env x = pure x := by intro _; rfl) : GS X (.For tg iter body [] pos) (tGFor wi g tb) := by
  refine ⟨fun A S ip R n ys s₀ c fs K J gd lv s σ H D g0 hn k hI ht => ?_⟩
  obtain ⟨acc, cc, r, I⟩ := hI
  refine seg_For ?_ hs
  rw [g0.over]
  refine wpAny_mono (hi.run _ s σ H _ I ht) (fun v s1 h1 => wpAny_mono h1 (fun itv s2 h2 p => ?_) fun x s' hx => k.exc n s₀ x s' hx) fun x s' hx => k.exc n s₀ x s' hx
  obtain ⟨it, fp, tn, J0, H2, e, I2, T, st2, f2, W, ⟨m0, w0⟩, turn⟩ := h2
  subst e
  have stat : ∀ {H' : Hp} {acc' : Array Value} {c' : Nat}, (∀ b ∈ fp, H' b = none) → ∀ b ∈ fp, FpOk X ((S, lstObj acc' c') :: ip) H' b := fun hn b hb => by
    obtain ⟨q0, q1, q2, q3, q4, q5⟩ := f2 b hb
    refine ⟨hn b hb, q1, q2, q3, q4, fun p hp => ?_⟩
    rcases List.mem_append.mp hp with hp | hp
    · exact q5 p (List.mem_append_left _ hp)
    · rcases List.mem_cons.mp hp with rfl | hp
      · exact q5 (S, lstObj acc cc) (List.mem_append_right _ List.mem_cons_self)
      · exact q5 p (List.mem_append_right _ (List.mem_cons_of_mem _ hp))
  have nS : ∀ b ∈ fp, b ≠ S := fun b hb e => (f2 b hb).2.2.2.2.2 (S, lstObj acc cc) (List.mem_append_right _ List.mem_cons_self) e.symm
  have gl := fun (kk : Result → Sem PySem.Fin) => gc_loop (k := kk) (c' := .forLoop tg (.ref it) body [] X.env) (l := lv []) (kp := []) (p := p) g0 rfl rfl
  have loop : ∀ (m n : Nat) (ys : List V) (s₀ s : Shared) (i : Nat) (σ : L2.St) (H : Hp), n + ys.length = sizeLine → W i m ys σ H → GI X S ip ys σ H s → tn i s.heap → (∀ b ∈ fp, H b = none) →
      Seg (model X.prog X.w) A R (GY X S) n s₀ (.forLoop tg (.ref it) body [] X.env) ((model X.prog X.w).den (.forLoop tg (.ref it) body [] X.env))
        (.ret (fun r => ((match r with | .ok f => (.pure f : Sem Flow) | .error e => .raise e).onRaise (cameBack X.env)).wrap K J gd lv) none (gd false) (lv []) c p [] :: fs) s := by
    intro m
    induction m using Nat.strongRecOn with
    | ind m ih =>
      intro n ys s₀ s3 i σ3 H3 hn w3 hI st3 fr3
      have ee : ∀ (n : Nat) (s₀ : Shared) (x : Value) (s' : Shared), X.xe x s' → Seg (model X.prog X.w) A R (GY X S) n s₀ (.forLoop tg (.ref it) body [] X.env)
          ((do noteFrame x X.env; theTreesLotGoes x : Sem Unit).wrap (fun _ => .raise x) .raise id id)
          (.ret (fun r => ((match r with | .ok f => (.pure f : Sem Flow) | .error e => .raise e).onRaise (cameBack X.env)).wrap K J gd lv) none (gd false) (lv []) c p [] :: fs) s' := fun n s₀ x s' hx => by
        refine seg_wrap ?_
        rw [(gl _).over]
        refine wpAny_bind (wpAny_mono (hp x s' hx) (fun _ s'' hcb => wpAny_theTreesLotGoes ?_) fun y s'' hcb => ?_)
        · exact seg_leaf (.error x) (seg_cameBack g0 k hcb)
        · exact seg_leaf (.error y) (seg_cameBack g0 k hcb)
      refine seg_forLoop ?_
      rw [(gl _).over]
      obtain ⟨acc3, cc3, r3, I3⟩ := hI
      rcases turn i m ys σ3 H3 w3 with ⟨stop, qn⟩ | ⟨go, N, hN, step⟩
      · refine wpAny_mono (T.done X rfl rfl rfl hc i _ s3 σ3 H3 X.xe I3 (stat fr3) st3 stop) (fun r s4 h4 => ?_) fun x s' hx => ee n s₀ x s' hx
        obtain ⟨hr, I4⟩ := h4
        subst hr
        exact seg_leaf (.ok .next) (k.ok n ys s₀ s4 .next hn ⟨σ3, H3, ⟨acc3, cc3, r3, I4⟩, qn⟩)
      · refine wpAny_mono (T.item X rfl rfl rfl hc i _ s3 σ3 H3 X.xe I3 (stat fr3) st3 go) (fun r s4 h4 => ?_) fun x s' hx => ee n s₀ x s' hx
        obtain ⟨u, hr, h4⟩ := h4
        subst hr
        refine wpAny_mono h4 (fun _ s5 h5 => ?_) fun x s' hx => ee n s₀ x s' hx
        obtain ⟨x, H5, I5, r5, y5, st5, fr5⟩ := h5
        have I5' := I5.pinned (stat fr5) (T.obj _ _ st5)
        refine wpAny_mono (hg.run _ s5 σ3 H5 x u _ I5' r5 (step x H5 y5)) (fun _ s6 h6 => ?_) fun x s' hx => ee n s₀ x s' hx
        obtain ⟨σ6, H6, I6, q6⟩ := h6
        have hip : ∀ q ∈ ip ++ pinsAt fp s5.heap, q.1 ≠ S := fun q hq => by
          rcases List.mem_append.mp hq with hq | hq
          · exact g0.ip q hq
          · exact nS _ (of_pinsAt hq).1
        have g6 := fun (kk : Result → Sem PySem.Fin) => ({ gl kk with ip := hip } : GC X S (ip ++ pinsAt fp s5.heap) A (.forLoop tg (.ref it) body [] X.env) _ id)
        have again : ∀ {n' : Nat} {ys' : List V} {s₀' s7 : Shared} {σ7 : L2.St} {H7 : Hp}, n' + ys'.length = sizeLine → GI X S (ip ++ pinsAt fp s5.heap) ys' σ7 H7 s7 → N ys' σ7 H7 →
            Seg (model X.prog X.w) A R (GY X S) n' s₀' (.forLoop tg (.ref it) body [] X.env) ((model X.prog X.w).den (.forLoop tg (.ref it) body [] X.env))
              (.ret (fun r => ((match r with | .ok f => (.pure f : Sem Flow) | .error e => .raise e).onRaise (cameBack X.env)).wrap K J gd lv) none (gd false) (lv []) c p [] :: fs) s7 := fun {n' ys' s₀' s7 σ7 H7} hn' G7 n7 => by
          obtain ⟨m', hm, w7⟩ := hN ys' σ7 H7 n7
          obtain ⟨acc7, cc7, r7, I7⟩ := G7
          have pin7 : ∀ b o, (b, o) ∈ pinsAt fp s5.heap → s7.heap.get? b = some o ∧ H7 b = none := fun b o hb => by
            have := I7.pin (b, o) (List.mem_append_right _ (List.mem_cons_of_mem _ (List.mem_append_right _ hb)))
            exact ⟨this.1, this.2.1⟩
          refine ih m' hm n' ys' s₀' s7 (i + 1) σ7 H7 hn' w7 ⟨acc7, cc7, r7, I7.pins_of fun q hq => ?_⟩ (T.keep _ _ _ st5 fun b hb o e => (pin7 b o (mem_pinsAt hb e)).1) fun b hb => ?_
          · rcases List.mem_cons.mp hq with rfl | hq
            · exact I7.pin _ (List.mem_append_right _ List.mem_cons_self)
            · exact I7.pin q (List.mem_append_right _ (List.mem_cons_of_mem _ (List.mem_append_left _ hq)))
          · obtain ⟨o, e, d⟩ := T.obj _ _ st5 b hb
            exact (pin7 b o (mem_pinsAt hb e)).2
        have out : ∀ {ys' : List V} {s7 : Shared} {σ7 : L2.St} {H7 : Hp}, GI X S (ip ++ pinsAt fp s5.heap) ys' σ7 H7 s7 → GI X S ip ys' σ7 H7 s7 := fun {ys' s7 σ7 H7} G7 => by
          obtain ⟨acc7, cc7, r7, I7⟩ := G7
          refine ⟨acc7, cc7, r7, I7.pins_of fun q hq => ?_⟩
          rcases List.mem_cons.mp hq with rfl | hq
          · exact I7.pin _ (List.mem_append_right _ List.mem_cons_self)
          · exact I7.pin q (List.mem_append_right _ (List.mem_cons_of_mem _ (List.mem_append_left _ hq)))
        refine hb.run A S (ip ++ pinsAt fp s5.heap) R n ys s₀ _ _ _ _ id id s6 σ6 H6 { D with nx := N, ct := N, bk := D.nx } (g6 _) hn ⟨fun n' ys' s₀' s7 f hn' hs => ?_, fun n' s₀' x s7 hx => ee n' s₀' x s7 hx⟩ ⟨acc3, cc3, r3, I6⟩ q6
        cases f with
        | next =>
          obtain ⟨σ7, H7, G7, n7⟩ := hs
          exact seg_again rfl (again hn' G7 n7)
        | cont =>
          obtain ⟨σ7, H7, G7, n7⟩ := hs
          exact seg_again rfl (again hn' G7 n7)
        | brk =>
          obtain ⟨σ7, H7, G7, n7⟩ := hs
          exact seg_leaf (.ok .next) (k.ok n' ys' s₀' s7 .next hn' ⟨σ7, H7, out G7, n7⟩)
        | ret v =>
          obtain ⟨v7, σ7, H7, G7, r7, n7⟩ := hs
          exact seg_leaf (.ok (.ret v)) (k.ok n' ys' s₀' s7 (.ret v) hn' ⟨v7, σ7, H7, out G7, r7, n7⟩)
  exact loop m0 n ys s₀ s2 0 σ H2 hn w0 ⟨acc, cc, r, I2⟩ st2 fun b hb => (f2 b hb).1
end
end
section
open PySem.Spec PyProof.Rows GenW
theorem fun_gen {P : Program} {w : World} {K : PySem.W.Frag} {mg : Str → Option Value} {base : Heap} {x qual : Str} {st : Stmt} {f : Addr} {fd : FuncData} {N ps : List Str} {k : Nat} {sp : SpG} (F : Fun K x qual st f fd) (S : GScope N ps (defScope st)) (len : ∀ vs H Q E, sp vs H Q E → vs.length = ps.length)
    (hbody : ∀ (cdv : Value) (A : Around) (outer : List Env) (s : Shared) (H : Hp) (vs : List V) (Q : List V → Hp → Prop) (E : XK) (pn : List (Addr × Obj)), Room k (A.deeper (envOfC qual (defScope st) s.heap.objs.size f cdv)) → sp vs H Q E →
      ∃ t, GSs (gcxOf P w K mg base N qual (defScope st) f cdv A outer s H E pn) (defBody st) t ∧ t { nx := fun ys _ H' => Q ys H', rt := fun ys v H' => v = .non ∧ Q ys H' } [] (start N vs) H) : GFn P w K mg base (k + 1) f fd ps sp := by
  obtain ⟨oc, od, kV, doc, pm, an, cdv, ct, osl, rfl, lk, hcd⟩ := F.ex
  exact gfn_of lk hcd S len fun A outer s H vs Q E pn hr hsp => hbody cdv A outer s H vs Q E pn hr hsp
/-- over a list that the body leaves as it is -/
theorem gfor_list {K : PySem.W.Frag} {a : Addr} {xs : List V} {g : TG} {tb : TGn} {D : GEnds} {ys : List V} {σ : L2.St} {H : Hp} (Pv : Nat → List V → L2.St → Hp → Prop) (h0 : Pv 0 ys σ H) (hl : ∀ i ys σ H, i ≤ xs.length → Pv i ys σ H → SqL K H a xs)
    (hs : ∀ i x ys σ H, xs[i]? = some x → Pv i ys σ H → g x σ H fun σ2 H2 => tb { D with nx := Pv (i + 1), ct := Pv (i + 1), bk := D.nx } ys σ2 H2) (hd : ∀ ys σ H, Pv xs.length ys σ H → D.nx ys σ H) :
    ∃ W : Nat → Nat → List V → L2.St → Hp → Prop, (∃ m, W 0 m ys σ H) ∧ ∀ i m ys σ H, W i m ys σ H →
      ((Itl K a).stop i H ∧ D.nx ys σ H) ∨ ((Itl K a).go i H ∧ ∃ N : List V → L2.St → Hp → Prop, (∀ ys' σ' H', N ys' σ' H' → ∃ m', m' < m ∧ W (i + 1) m' ys' σ' H') ∧ ∀ x H', (Itl K a).yld i H x H' → g x σ H' fun σ2 H2 => tb { D with nx := N, ct := N, bk := D.nx } ys σ2 H2) := by
  refine ⟨fun i m ys σ H => m = xs.length - i ∧ i ≤ xs.length ∧ Pv i ys σ H, ⟨xs.length, by simp, Nat.zero_le _, h0⟩, ?_⟩
  rintro i m ys σ H ⟨rfl, hi, p⟩
  have q := hl i ys σ H hi p
  by_cases hlt : i < xs.length
  · refine .inr ⟨⟨xs, xs[i], q, by simp [hlt]⟩, Pv (i + 1), fun ys' σ' H' p' => ⟨xs.length - (i + 1), by omega, rfl, hlt, p'⟩, fun x H' y => ?_⟩
    obtain ⟨e, y⟩ := y
    subst e
    exact hs i x ys σ _ (y xs q) p
  · have e : i = xs.length := by omega
    subst e
    exact .inl ⟨⟨xs, q, Nat.le_refl _⟩, hd ys σ H p⟩
theorem noStop0 {K : PySem.W.Frag} : NoStop K E0 := fun _ _ _ h => nomatch h
end
/-! ### a dict comprehension over a list that stays -/
section
open PySem PySem.Spec PyProof.Rows
theorem dc_list {K : PySem.W.Frag} {a : Addr} {xs : List V} {g : TG} {tt : TT} {tk tv : TE} {vs : List Nat} {σ : L2.St} {H1 : Hp} {D : Addr} {Qd : Hp → Prop} (Pv : Nat → Hp → Prop) (h0 : Pv 0 (upd H1 D (.dK []))) (hl : ∀ i H, i ≤ xs.length → Pv i H → SqL K H a xs)
    (hs : ∀ i x H, xs[i]? = some x → Pv i H → g x (wipe σ vs) H fun σ2 H2 => wipe σ2 vs = wipe σ vs ∧ tt σ2 H2 fun b H3 =>
      if b = true then tk σ2 H3 fun y H4 => tv σ2 H4 fun z H5 => ∃ kvs k, y = kV k ∧ H5 D = some (.dK kvs) ∧ kvs.length < sizeLine ∧ Pv (i + 1) (upd H5 D (.dK (putK kvs k z))) else Pv (i + 1) H3) (hd : ∀ H, Pv xs.length H → Qd H) :
    ∃ W : Nat → Nat → Hp → Prop, (∃ m, W 0 m (upd H1 D (.dK []))) ∧ ∀ i m H, W i m H →
      ((Itl K a).stop i H ∧ Qd H) ∨ ((Itl K a).go i H ∧ ∃ Nx : Hp → Prop, (∀ H', Nx H' → ∃ m', m' < m ∧ W (i + 1) m' H') ∧ ∀ x H', (Itl K a).yld i H x H' → g x (wipe σ vs) H' fun σ2 H2 => wipe σ2 vs = wipe σ vs ∧ tt σ2 H2 fun b H3 =>
        if b = true then tk σ2 H3 fun y H4 => tv σ2 H4 fun z H5 => ∃ kvs k, y = kV k ∧ H5 D = some (.dK kvs) ∧ kvs.length < sizeLine ∧ Nx (upd H5 D (.dK (putK kvs k z))) else Nx H3) := by
  refine ⟨fun i m H => m = xs.length - i ∧ i ≤ xs.length ∧ Pv i H, ⟨xs.length, by simp, Nat.zero_le _, h0⟩, ?_⟩
  rintro i m H ⟨rfl, hi, p⟩
  have q := hl i H hi p
  by_cases hlt : i < xs.length
  · refine .inr ⟨⟨xs, xs[i], q, by simp [hlt]⟩, Pv (i + 1), fun H' p' => ⟨xs.length - (i + 1), by omega, rfl, hlt, p'⟩, fun x H' y => ?_⟩
    obtain ⟨e, y⟩ := y
    subst e
    exact hs i x _ (y xs q) p
  · have e : i = xs.length := by omega
    subst e
    exact .inl ⟨⟨xs, q, Nat.le_refl _⟩, hd H p⟩
end
abbrev s_Mode_is_mode : Stmt := inClass (top 14) 9
theorem sc_Mode_is_mode : FnScope ["thing"] ["thing"] (defScope s_Mode_is_mode) := ⟨rfl, rfl, rfl, by decide +kernel, rfl, by decide +kernel, by decide +kernel⟩
abbrev s_is_word : Stmt := top 13
theorem sc_is_word : FnScope ["thing", "letter"] ["thing"] (defScope s_is_word) := ⟨rfl, rfl, rfl, by decide +kernel, rfl, by decide +kernel, by decide +kernel⟩
abbrev s_MissingU_initU : Stmt := inClass (top 8) 0
abbrev s_PresentU_initU : Stmt := inClass (top 9) 0
abbrev s_DoomedU_initU : Stmt := inClass (top 7) 0
abbrev s_RefusedU_initU : Stmt := inClass (top 10) 0
abbrev s_NoBlockU_initU : Stmt := inClass (top 5) 0
abbrev s_WaitsU_initU : Stmt := inClass (top 11) 0
abbrev s_NoRecordU_initU : Stmt := inClass (top 6) 0
abbrev s_BadWordU_initU : Stmt := inClass (top 3) 0
abbrev s_BadModeU_initU : Stmt := inClass (top 4) 0
abbrev s_WriteU_initU : Stmt := inClass (top 16) 0
theorem sc_WriteU_initU : FnScope ["self", "record", "value", "fate", "holder", "level"] ["self", "record", "value", "fate", "holder", "level"] (defScope s_WriteU_initU) := ⟨rfl, rfl, rfl, by decide +kernel, rfl, by decide +kernel, by decide +kernel⟩
abbrev s_TransactionU_initU : Stmt := inClass (top 17) 0
theorem sc_TransactionU_initU : FnScope ["self", "number"] ["self", "number"] (defScope s_TransactionU_initU) := ⟨rfl, rfl, rfl, by decide +kernel, rfl, by decide +kernel, by decide +kernel⟩
abbrev s_DatabaseU_initU : Stmt := inClass (top 18) 0
theorem sc_DatabaseU_initU : FnScope ["self"] ["self"] (defScope s_DatabaseU_initU) := ⟨rfl, rfl, rfl, by decide +kernel, rfl, by decide +kernel, by decide +kernel⟩
abbrev s_Database_begin : Stmt := inClass (top 18) 9
theorem sc_Database_begin : FnScope ["self"] ["self"] (defScope s_Database_begin) := ⟨rfl, rfl, rfl, by decide +kernel, rfl, by decide +kernel, by decide +kernel⟩
abbrev s_Database_enter_alone : Stmt := inClass (top 18) 7
theorem sc_Database_enter_alone : FnScope ["self", "mode"] ["self", "mode"] (defScope s_Database_enter_alone) := ⟨rfl, rfl, rfl, by decide +kernel, rfl, by decide +kernel, by decide +kernel⟩
abbrev s_Database_enter_inside : Stmt := inClass (top 18) 8
theorem sc_Database_enter_inside : FnScope ["self", "mode", "present"] ["self", "mode", "present"] (defScope s_Database_enter_inside) := ⟨rfl, rfl, rfl, by decide +kernel, rfl, by decide +kernel, by decide +kernel⟩
abbrev s_Database_enter : Stmt := inClass (top 18) 6
theorem sc_Database_enter : FnScope ["self", "mode"] ["self", "mode"] (defScope s_Database_enter) := ⟨rfl, rfl, rfl, by decide +kernel, rfl, by decide +kernel, by decide +kernel⟩
abbrev s_Database_doom : Stmt := inClass (top 18) 20
theorem sc_Database_doom : FnScope ["self", "first", "present"] ["self", "first"] (defScope s_Database_doom) := ⟨rfl, rfl, rfl, by decide +kernel, rfl, by decide +kernel, by decide +kernel⟩
abbrev s_Database_end_level : Stmt := inClass (top 18) 11
theorem sc_Database_end_level : FnScope ["self", "error", "present", "reason", "top", "row"] ["self", "error"] (defScope s_Database_end_level) := ⟨rfl, rfl, rfl, by decide +kernel, rfl, by decide +kernel, by decide +kernel⟩
abbrev s_Database_end_transaction : Stmt := inClass (top 18) 12
theorem sc_Database_end_transaction : FnScope ["self", "error", "commits", "present", "reason", "fate", "row"] ["self", "error", "commits"] (defScope s_Database_end_transaction) := ⟨rfl, rfl, rfl, by decide +kernel, rfl, by decide +kernel, by decide +kernel⟩
abbrev s_Database_leave : Stmt := inClass (top 18) 10
theorem sc_Database_leave : FnScope ["self", "error", "commits", "sort"] ["self", "error", "commits"] (defScope s_Database_leave) := ⟨rfl, rfl, rfl, by decide +kernel, rfl, by decide +kernel, by decide +kernel⟩
abbrev s_Database_held_by : Stmt := inClass (top 18) 21
theorem sc_Database_held_by : FnScope ["self", "numbers", "row"] ["self", "numbers"] (defScope s_Database_held_by) := ⟨rfl, rfl, rfl, by decide +kernel, rfl, by decide +kernel, by decide +kernel⟩
abbrev s_Database_held_records : Stmt := inClass (top 18) 22
theorem sc_Database_held_records : FnScope ["self", "one"] ["self"] (defScope s_Database_held_records) := ⟨rfl, rfl, rfl, by decide +kernel, rfl, by decide +kernel, by decide +kernel⟩
abbrev s_Database_outer_records : Stmt := inClass (top 18) 23
theorem sc_Database_outer_records : FnScope ["self", "one"] ["self"] (defScope s_Database_outer_records) := ⟨rfl, rfl, rfl, by decide +kernel, rfl, by decide +kernel, by decide +kernel⟩
abbrev s_Database_would_wait : Stmt := inClass (top 18) 13
theorem sc_Database_would_wait : FnScope ["self", "record"] ["self", "record"] (defScope s_Database_would_wait) := ⟨rfl, rfl, rfl, by decide +kernel, rfl, by decide +kernel, by decide +kernel⟩
abbrev s_Database_write : Stmt := inClass (top 18) 14
theorem sc_Database_write : FnScope ["self", "record", "value", "present"] ["self", "record", "value"] (defScope s_Database_write) := ⟨rfl, rfl, rfl, by decide +kernel, rfl, by decide +kernel, by decide +kernel⟩
abbrev s_DatabaseU_setitemU : Stmt := inClass (top 18) 15
theorem sc_DatabaseU_setitemU : FnScope ["self", "record", "value"] ["self", "record", "value"] (defScope s_DatabaseU_setitemU) := ⟨rfl, rfl, rfl, by decide +kernel, rfl, by decide +kernel, by decide +kernel⟩
abbrev s_Database_kept_values : Stmt := inClass (top 18) 24
theorem sc_Database_kept_values : FnScope ["self", "last", "row", "record"] ["self"] (defScope s_Database_kept_values) := ⟨rfl, rfl, rfl, by decide +kernel, rfl, by decide +kernel, by decide +kernel⟩
abbrev s_Database_fates : Stmt := inClass (top 18) 25
theorem sc_Database_fates : GScope ["self", "row"] ["self"] (defScope s_Database_fates) := ⟨rfl, rfl, rfl, by decide +kernel, rfl, by decide +kernel, by decide +kernel⟩
abbrev s_Database_is_open : Stmt := inClass (top 18) 1
theorem sc_Database_is_open : FnScope ["self"] ["self"] (defScope s_Database_is_open) := ⟨rfl, rfl, rfl, by decide +kernel, rfl, by decide +kernel, by decide +kernel⟩
abbrev s_Database_is_doomed : Stmt := inClass (top 18) 2
theorem sc_Database_is_doomed : FnScope ["self"] ["self"] (defScope s_Database_is_doomed) := ⟨rfl, rfl, rfl, by decide +kernel, rfl, by decide +kernel, by decide +kernel⟩
abbrev s_Database_reason : Stmt := inClass (top 18) 3
theorem sc_Database_reason : FnScope ["self"] ["self"] (defScope s_Database_reason) := ⟨rfl, rfl, rfl, by decide +kernel, rfl, by decide +kernel, by decide +kernel⟩
abbrev s_Database_levels : Stmt := inClass (top 18) 4
theorem sc_Database_levels : FnScope ["self"] ["self"] (defScope s_Database_levels) := ⟨rfl, rfl, rfl, by decide +kernel, rfl, by decide +kernel, by decide +kernel⟩
abbrev s_Database_depth : Stmt := inClass (top 18) 5
theorem sc_Database_depth : FnScope ["self"] ["self"] (defScope s_Database_depth) := ⟨rfl, rfl, rfl, by decide +kernel, rfl, by decide +kernel, by decide +kernel⟩
abbrev s_law_pool : Stmt := top 20
theorem sc_law_pool : FnScope ["_law_script", "_law_at", "_law_cell", "_law_size", "_law_seed"] ["_law_script", "_law_at"] (defScope s_law_pool) := ⟨rfl, rfl, rfl, by decide +kernel, rfl, by decide +kernel, by decide +kernel⟩
abbrev s_law_draw : Stmt := top 21
theorem sc_law_draw : FnScope ["_law_pool_here", "_law_many", "_law_digit", "_law_count", "_law_mixed"] ["_law_pool_here", "_law_many"] (defScope s_law_draw) := ⟨rfl, rfl, rfl, by decide +kernel, rfl, by decide +kernel, by decide +kernel⟩
abbrev s_law_word : Stmt := top 22
theorem sc_law_word : FnScope ["_law_pool_here", "_law_letters", "_law_k"] ["_law_pool_here"] (defScope s_law_word) := ⟨rfl, rfl, rfl, by decide +kernel, rfl, by decide +kernel, by decide +kernel⟩
abbrev s_law_seen : Stmt := top 23
theorem sc_law_seen : FnScope ["_law_db", "_law_props", "_law_rows", "_law_row"] ["_law_db"] (defScope s_law_seen) := ⟨rfl, rfl, rfl, by decide +kernel, rfl, by decide +kernel, by decide +kernel⟩
abbrev s_law_try : Stmt := top 24
theorem sc_law_try : FnScope ["_law_db", "_law_deed", "_law_word_here", "_law_value"] ["_law_db", "_law_deed", "_law_word_here", "_law_value"] (defScope s_law_try) := ⟨rfl, rfl, rfl, by decide +kernel, rfl, by decide +kernel, by decide +kernel⟩
abbrev s_law_inside : Stmt := top 25
theorem sc_law_inside : FnScope ["_law_pool_here", "_law_db", "_law_depth", "_law_turn", "_law_deeds", "_law_deed", "_law_word_here"] ["_law_pool_here", "_law_db"] (defScope s_law_inside) := ⟨rfl, rfl, rfl, by decide +kernel, rfl, by decide +kernel, by decide +kernel⟩
abbrev s_law : Stmt := top 26
theorem sc_law : FnScope ["_law_script", "_law_modes", "_law_at", "_law_pool_here", "_law_first", "_law_second", "_law_turn", "_law_deed", "_law_word_here", "_law_value", "_law_is_well"] ["_law_script"] (defScope s_law) := ⟨rfl, rfl, rfl, by decide +kernel, rfl, by decide +kernel, by decide +kernel⟩
abbrev ef_Missing : List (Str × Sum Nat Str) := [("word", .inr "missing"), ("mode", .inl 0)]
theorem ec_Missing {K : PySem.W.Frag} {C fI : Addr} {nm qn : Str} {N : Addr} {bs bm : List Value} {sn : List Str} {sub : List Value} {ab : Bool} {col : Option Bool} {dd : Option Addr} {k0 k1 k2 k3 k5 : Option Value}
    {oc : Value} {od : Option Addr} {doc pm : Value} {an : Option Addr} {cda cc : Addr} {ct : Value} {osl : Array (Option Value)} {ccl : Value} {cdd : Option Addr} {vs : Array Value} {ccs : Array (Option Value)} {tf : Tok} {cl : Value} {cld : Option Addr} {csl : Array (Option Value)}
    (h1 : K.lookup C = some (excClassObj nm qn C N bs bm true sn sub ab col dd k0 k1 k2 k3 k5 "ValueError.__new__")) (h2 : PySem.HandSPX.refsVE bm = true) (h3 : PySem.W.findIn K (.ref C) "__setattr__" = some (some (.builtin "object.__setattr__")))
    (h4 : PySem.W.findIn K (.ref C) "__getattribute__" = some (some (.builtin "BaseException.__getattribute__"))) (h5 : PySem.W.findIn K (.ref C) "__getattr__" = some none) (h6 : PySem.W.findIn K (.ref C) "__init__" = some (some (.ref fI)))
    (h7 : PySem.W.typeIn K (.ref fI) = some (.type "function")) (h8 : PySem.W.keepIn K (.ref C) = true) (h9 : PySem.W.subIn K (.ref C) (.type "BaseException") = some true) (h10 : PySem.W.subIn K (.ref C) (.type "ValueError") = some true)
    (h11 : PySem.W.typeIn K (.ref C) = some (.type "type")) (h12 : PySem.W.hasDictIn K C = true) (h13 : PySem.W.ks_superIn K C C "__init__" = some (some (.builtin "ValueError.__init__"))) (h14 : PySem.W.mroIn K C (.ref C) = some true) (h15 : PySem.W.exmOne K (.ref C) (.ref C) = some true)
    (h16 : PySem.W.nsIn K cStatics "thirdparty.any" = some none) (h17 : K.lookup fI = some ⟨oc, od, .func (PySem.W.ksFn "__init__" "Missing.__init__" (defArgs s_MissingU_initU) (defBody s_MissingU_initU) (defScope s_MissingU_initU) .none .none doc pm an (.ref cda) ct cc), osl⟩) (h18 : PySem.W.codeIn K (.ref cda) "Missing.__init__" = true)
    (h19 : K.lookup cda = some ⟨ccl, cdd, .fields vs, ccs⟩) (h20 : vs[2]? = some (.str P.main.file tf)) (h21 : K.lookup cc = some ⟨cl, cld, .cell (some (.ref C)), csl⟩) (nf0 : PySem.W.findIn K (.ref C) "word" = some none) (nf1 : PySem.W.findIn K (.ref C) "mode" = some none) : ErrC P K C fI s_MissingU_initU "Missing.__init__" ["mode"] ef_Missing := by
  refine ⟨⟨nm, qn, N, bs, bm, sn, sub, ab, col, dd, k0, k1, k2, k3, k5, h1, h2⟩, h3, h4, h5, ?_, h6, h7, h8, h9, h10, h11, h12, h13, h14, h15, h16, ⟨oc, od, doc, pm, an, cda, cc, ct, osl, ccl, cdd, vs, ccs, tf, cl, cld, csl, h17, h18, h19, h20, h21⟩, ⟨_, rfl, rfl⟩, (fun _ _ _ _ _ _ us hl => match us, hl with | [_, _], _ => rfl),
    ⟨_, _, _, _, _, _, _, _, _, rfl, (.con (.par (i := 0) rfl .nil)), fun L cda cc => ⟨_, rfl⟩⟩, rfl, rfl, rfl, by decide +kernel, by decide +kernel, rfl, rfl, by decide +kernel, by decide +kernel⟩
  intro p hp
  rcases List.mem_cons.mp hp with rfl | hp
  · exact nf0
  rcases List.mem_cons.mp hp with rfl | hp
  · exact nf1
  · exact absurd hp (by simp)
abbrev ef_Present : List (Str × Sum Nat Str) := [("word", .inr "present"), ("mode", .inl 0)]
theorem ec_Present {K : PySem.W.Frag} {C fI : Addr} {nm qn : Str} {N : Addr} {bs bm : List Value} {sn : List Str} {sub : List Value} {ab : Bool} {col : Option Bool} {dd : Option Addr} {k0 k1 k2 k3 k5 : Option Value}
    {oc : Value} {od : Option Addr} {doc pm : Value} {an : Option Addr} {cda cc : Addr} {ct : Value} {osl : Array (Option Value)} {ccl : Value} {cdd : Option Addr} {vs : Array Value} {ccs : Array (Option Value)} {tf : Tok} {cl : Value} {cld : Option Addr} {csl : Array (Option Value)}
    (h1 : K.lookup C = some (excClassObj nm qn C N bs bm true sn sub ab col dd k0 k1 k2 k3 k5 "ValueError.__new__")) (h2 : PySem.HandSPX.refsVE bm = true) (h3 : PySem.W.findIn K (.ref C) "__setattr__" = some (some (.builtin "object.__setattr__")))
    (h4 : PySem.W.findIn K (.ref C) "__getattribute__" = some (some (.builtin "BaseException.__getattribute__"))) (h5 : PySem.W.findIn K (.ref C) "__getattr__" = some none) (h6 : PySem.W.findIn K (.ref C) "__init__" = some (some (.ref fI)))
    (h7 : PySem.W.typeIn K (.ref fI) = some (.type "function")) (h8 : PySem.W.keepIn K (.ref C) = true) (h9 : PySem.W.subIn K (.ref C) (.type "BaseException") = some true) (h10 : PySem.W.subIn K (.ref C) (.type "ValueError") = some true)
    (h11 : PySem.W.typeIn K (.ref C) = some (.type "type")) (h12 : PySem.W.hasDictIn K C = true) (h13 : PySem.W.ks_superIn K C C "__init__" = some (some (.builtin "ValueError.__init__"))) (h14 : PySem.W.mroIn K C (.ref C) = some true) (h15 : PySem.W.exmOne K (.ref C) (.ref C) = some true)
    (h16 : PySem.W.nsIn K cStatics "thirdparty.any" = some none) (h17 : K.lookup fI = some ⟨oc, od, .func (PySem.W.ksFn "__init__" "Present.__init__" (defArgs s_PresentU_initU) (defBody s_PresentU_initU) (defScope s_PresentU_initU) .none .none doc pm an (.ref cda) ct cc), osl⟩) (h18 : PySem.W.codeIn K (.ref cda) "Present.__init__" = true)
    (h19 : K.lookup cda = some ⟨ccl, cdd, .fields vs, ccs⟩) (h20 : vs[2]? = some (.str P.main.file tf)) (h21 : K.lookup cc = some ⟨cl, cld, .cell (some (.ref C)), csl⟩) (nf0 : PySem.W.findIn K (.ref C) "word" = some none) (nf1 : PySem.W.findIn K (.ref C) "mode" = some none) : ErrC P K C fI s_PresentU_initU "Present.__init__" ["mode"] ef_Present := by
  refine ⟨⟨nm, qn, N, bs, bm, sn, sub, ab, col, dd, k0, k1, k2, k3, k5, h1, h2⟩, h3, h4, h5, ?_, h6, h7, h8, h9, h10, h11, h12, h13, h14, h15, h16, ⟨oc, od, doc, pm, an, cda, cc, ct, osl, ccl, cdd, vs, ccs, tf, cl, cld, csl, h17, h18, h19, h20, h21⟩, ⟨_, rfl, rfl⟩, (fun _ _ _ _ _ _ us hl => match us, hl with | [_, _], _ => rfl),
    ⟨_, _, _, _, _, _, _, _, _, rfl, (.con (.par (i := 0) rfl .nil)), fun L cda cc => ⟨_, rfl⟩⟩, rfl, rfl, rfl, by decide +kernel, by decide +kernel, rfl, rfl, by decide +kernel, by decide +kernel⟩
  intro p hp
  rcases List.mem_cons.mp hp with rfl | hp
  · exact nf0
  rcases List.mem_cons.mp hp with rfl | hp
  · exact nf1
  · exact absurd hp (by simp)
abbrev ef_Doomed : List (Str × Sum Nat Str) := [("word", .inr "doomed"), ("first", .inl 0)]
theorem ec_Doomed {K : PySem.W.Frag} {C fI : Addr} {nm qn : Str} {N : Addr} {bs bm : List Value} {sn : List Str} {sub : List Value} {ab : Bool} {col : Option Bool} {dd : Option Addr} {k0 k1 k2 k3 k5 : Option Value}
    {oc : Value} {od : Option Addr} {doc pm : Value} {an : Option Addr} {cda cc : Addr} {ct : Value} {osl : Array (Option Value)} {ccl : Value} {cdd : Option Addr} {vs : Array Value} {ccs : Array (Option Value)} {tf : Tok} {cl : Value} {cld : Option Addr} {csl : Array (Option Value)}
    (h1 : K.lookup C = some (excClassObj nm qn C N bs bm true sn sub ab col dd k0 k1 k2 k3 k5 "ValueError.__new__")) (h2 : PySem.HandSPX.refsVE bm = true) (h3 : PySem.W.findIn K (.ref C) "__setattr__" = some (some (.builtin "object.__setattr__")))
    (h4 : PySem.W.findIn K (.ref C) "__getattribute__" = some (some (.builtin "BaseException.__getattribute__"))) (h5 : PySem.W.findIn K (.ref C) "__getattr__" = some none) (h6 : PySem.W.findIn K (.ref C) "__init__" = some (some (.ref fI)))
    (h7 : PySem.W.typeIn K (.ref fI) = some (.type "function")) (h8 : PySem.W.keepIn K (.ref C) = true) (h9 : PySem.W.subIn K (.ref C) (.type "BaseException") = some true) (h10 : PySem.W.subIn K (.ref C) (.type "ValueError") = some true)
    (h11 : PySem.W.typeIn K (.ref C) = some (.type "type")) (h12 : PySem.W.hasDictIn K C = true) (h13 : PySem.W.ks_superIn K C C "__init__" = some (some (.builtin "ValueError.__init__"))) (h14 : PySem.W.mroIn K C (.ref C) = some true) (h15 : PySem.W.exmOne K (.ref C) (.ref C) = some true)
    (h16 : PySem.W.nsIn K cStatics "thirdparty.any" = some none) (h17 : K.lookup fI = some ⟨oc, od, .func (PySem.W.ksFn "__init__" "Doomed.__init__" (defArgs s_DoomedU_initU) (defBody s_DoomedU_initU) (defScope s_DoomedU_initU) .none .none doc pm an (.ref cda) ct cc), osl⟩) (h18 : PySem.W.codeIn K (.ref cda) "Doomed.__init__" = true)
    (h19 : K.lookup cda = some ⟨ccl, cdd, .fields vs, ccs⟩) (h20 : vs[2]? = some (.str P.main.file tf)) (h21 : K.lookup cc = some ⟨cl, cld, .cell (some (.ref C)), csl⟩) (nf0 : PySem.W.findIn K (.ref C) "word" = some none) (nf1 : PySem.W.findIn K (.ref C) "first" = some none) : ErrC P K C fI s_DoomedU_initU "Doomed.__init__" ["first"] ef_Doomed := by
  refine ⟨⟨nm, qn, N, bs, bm, sn, sub, ab, col, dd, k0, k1, k2, k3, k5, h1, h2⟩, h3, h4, h5, ?_, h6, h7, h8, h9, h10, h11, h12, h13, h14, h15, h16, ⟨oc, od, doc, pm, an, cda, cc, ct, osl, ccl, cdd, vs, ccs, tf, cl, cld, csl, h17, h18, h19, h20, h21⟩, ⟨_, rfl, rfl⟩, (fun _ _ _ _ _ _ us hl => match us, hl with | [_, _], _ => rfl),
    ⟨_, _, _, _, _, _, _, _, _, rfl, (.con (.par (i := 0) rfl .nil)), fun L cda cc => ⟨_, rfl⟩⟩, rfl, rfl, rfl, by decide +kernel, by decide +kernel, rfl, rfl, by decide +kernel, by decide +kernel⟩
  intro p hp
  rcases List.mem_cons.mp hp with rfl | hp
  · exact nf0
  rcases List.mem_cons.mp hp with rfl | hp
  · exact nf1
  · exact absurd hp (by simp)
abbrev ef_Refused : List (Str × Sum Nat Str) := [("word", .inr "refused")]
theorem ec_Refused {K : PySem.W.Frag} {C fI : Addr} {nm qn : Str} {N : Addr} {bs bm : List Value} {sn : List Str} {sub : List Value} {ab : Bool} {col : Option Bool} {dd : Option Addr} {k0 k1 k2 k3 k5 : Option Value}
    {oc : Value} {od : Option Addr} {doc pm : Value} {an : Option Addr} {cda cc : Addr} {ct : Value} {osl : Array (Option Value)} {ccl : Value} {cdd : Option Addr} {vs : Array Value} {ccs : Array (Option Value)} {tf : Tok} {cl : Value} {cld : Option Addr} {csl : Array (Option Value)}
    (h1 : K.lookup C = some (excClassObj nm qn C N bs bm true sn sub ab col dd k0 k1 k2 k3 k5 "ValueError.__new__")) (h2 : PySem.HandSPX.refsVE bm = true) (h3 : PySem.W.findIn K (.ref C) "__setattr__" = some (some (.builtin "object.__setattr__")))
    (h4 : PySem.W.findIn K (.ref C) "__getattribute__" = some (some (.builtin "BaseException.__getattribute__"))) (h5 : PySem.W.findIn K (.ref C) "__getattr__" = some none) (h6 : PySem.W.findIn K (.ref C) "__init__" = some (some (.ref fI)))
    (h7 : PySem.W.typeIn K (.ref fI) = some (.type "function")) (h8 : PySem.W.keepIn K (.ref C) = true) (h9 : PySem.W.subIn K (.ref C) (.type "BaseException") = some true) (h10 : PySem.W.subIn K (.ref C) (.type "ValueError") = some true)
    (h11 : PySem.W.typeIn K (.ref C) = some (.type "type")) (h12 : PySem.W.hasDictIn K C = true) (h13 : PySem.W.ks_superIn K C C "__init__" = some (some (.builtin "ValueError.__init__"))) (h14 : PySem.W.mroIn K C (.ref C) = some true) (h15 : PySem.W.exmOne K (.ref C) (.ref C) = some true)
    (h16 : PySem.W.nsIn K cStatics "thirdparty.any" = some none) (h17 : K.lookup fI = some ⟨oc, od, .func (PySem.W.ksFn "__init__" "Refused.__init__" (defArgs s_RefusedU_initU) (defBody s_RefusedU_initU) (defScope s_RefusedU_initU) .none .none doc pm an (.ref cda) ct cc), osl⟩) (h18 : PySem.W.codeIn K (.ref cda) "Refused.__init__" = true)
    (h19 : K.lookup cda = some ⟨ccl, cdd, .fields vs, ccs⟩) (h20 : vs[2]? = some (.str P.main.file tf)) (h21 : K.lookup cc = some ⟨cl, cld, .cell (some (.ref C)), csl⟩) (nf0 : PySem.W.findIn K (.ref C) "word" = some none) : ErrC P K C fI s_RefusedU_initU "Refused.__init__" [] ef_Refused := by
  refine ⟨⟨nm, qn, N, bs, bm, sn, sub, ab, col, dd, k0, k1, k2, k3, k5, h1, h2⟩, h3, h4, h5, ?_, h6, h7, h8, h9, h10, h11, h12, h13, h14, h15, h16, ⟨oc, od, doc, pm, an, cda, cc, ct, osl, ccl, cdd, vs, ccs, tf, cl, cld, csl, h17, h18, h19, h20, h21⟩, ⟨_, rfl, rfl⟩, (fun _ _ _ _ _ _ us hl => match us, hl with | [_], _ => rfl),
    ⟨_, _, _, _, _, _, _, _, _, rfl, (.con .nil), fun L cda cc => ⟨_, rfl⟩⟩, rfl, rfl, rfl, by decide +kernel, by decide +kernel, rfl, rfl, by decide +kernel, by decide +kernel⟩
  intro p hp
  rcases List.mem_cons.mp hp with rfl | hp
  · exact nf0
  · exact absurd hp (by simp)
abbrev ef_NoBlock : List (Str × Sum Nat Str) := []
theorem ec_NoBlock {K : PySem.W.Frag} {C fI : Addr} {nm qn : Str} {N : Addr} {bs bm : List Value} {sn : List Str} {sub : List Value} {ab : Bool} {col : Option Bool} {dd : Option Addr} {k0 k1 k2 k3 k5 : Option Value}
    {oc : Value} {od : Option Addr} {doc pm : Value} {an : Option Addr} {cda cc : Addr} {ct : Value} {osl : Array (Option Value)} {ccl : Value} {cdd : Option Addr} {vs : Array Value} {ccs : Array (Option Value)} {tf : Tok} {cl : Value} {cld : Option Addr} {csl : Array (Option Value)}
    (h1 : K.lookup C = some (excClassObj nm qn C N bs bm true sn sub ab col dd k0 k1 k2 k3 k5 "ValueError.__new__")) (h2 : PySem.HandSPX.refsVE bm = true) (h3 : PySem.W.findIn K (.ref C) "__setattr__" = some (some (.builtin "object.__setattr__")))
    (h4 : PySem.W.findIn K (.ref C) "__getattribute__" = some (some (.builtin "BaseException.__getattribute__"))) (h5 : PySem.W.findIn K (.ref C) "__getattr__" = some none) (h6 : PySem.W.findIn K (.ref C) "__init__" = some (some (.ref fI)))
    (h7 : PySem.W.typeIn K (.ref fI) = some (.type "function")) (h8 : PySem.W.keepIn K (.ref C) = true) (h9 : PySem.W.subIn K (.ref C) (.type "BaseException") = some true) (h10 : PySem.W.subIn K (.ref C) (.type "ValueError") = some true)
    (h11 : PySem.W.typeIn K (.ref C) = some (.type "type")) (h12 : PySem.W.hasDictIn K C = true) (h13 : PySem.W.ks_superIn K C C "__init__" = some (some (.builtin "ValueError.__init__"))) (h14 : PySem.W.mroIn K C (.ref C) = some true) (h15 : PySem.W.exmOne K (.ref C) (.ref C) = some true)
    (h16 : PySem.W.nsIn K cStatics "thirdparty.any" = some none) (h17 : K.lookup fI = some ⟨oc, od, .func (PySem.W.ksFn "__init__" "NoBlock.__init__" (defArgs s_NoBlockU_initU) (defBody s_NoBlockU_initU) (defScope s_NoBlockU_initU) .none .none doc pm an (.ref cda) ct cc), osl⟩) (h18 : PySem.W.codeIn K (.ref cda) "NoBlock.__init__" = true)
    (h19 : K.lookup cda = some ⟨ccl, cdd, .fields vs, ccs⟩) (h20 : vs[2]? = some (.str P.main.file tf)) (h21 : K.lookup cc = some ⟨cl, cld, .cell (some (.ref C)), csl⟩)  : ErrC P K C fI s_NoBlockU_initU "NoBlock.__init__" [] ef_NoBlock := by
  refine ⟨⟨nm, qn, N, bs, bm, sn, sub, ab, col, dd, k0, k1, k2, k3, k5, h1, h2⟩, h3, h4, h5, ?_, h6, h7, h8, h9, h10, h11, h12, h13, h14, h15, h16, ⟨oc, od, doc, pm, an, cda, cc, ct, osl, ccl, cdd, vs, ccs, tf, cl, cld, csl, h17, h18, h19, h20, h21⟩, ⟨_, rfl, rfl⟩, (fun _ _ _ _ _ _ us hl => match us, hl with | [_], _ => rfl),
    ⟨_, _, _, _, _, _, _, _, _, rfl, .nil, fun L cda cc => ⟨_, rfl⟩⟩, rfl, rfl, rfl, by decide +kernel, by decide +kernel, rfl, rfl, by decide +kernel, by decide +kernel⟩
  intro p hp
  exact absurd hp (by simp)
abbrev ef_Waits : List (Str × Sum Nat Str) := [("word", .inr "waits"), ("record", .inl 0)]
theorem ec_Waits {K : PySem.W.Frag} {C fI : Addr} {nm qn : Str} {N : Addr} {bs bm : List Value} {sn : List Str} {sub : List Value} {ab : Bool} {col : Option Bool} {dd : Option Addr} {k0 k1 k2 k3 k5 : Option Value}
    {oc : Value} {od : Option Addr} {doc pm : Value} {an : Option Addr} {cda cc : Addr} {ct : Value} {osl : Array (Option Value)} {ccl : Value} {cdd : Option Addr} {vs : Array Value} {ccs : Array (Option Value)} {tf : Tok} {cl : Value} {cld : Option Addr} {csl : Array (Option Value)}
    (h1 : K.lookup C = some (excClassObj nm qn C N bs bm true sn sub ab col dd k0 k1 k2 k3 k5 "ValueError.__new__")) (h2 : PySem.HandSPX.refsVE bm = true) (h3 : PySem.W.findIn K (.ref C) "__setattr__" = some (some (.builtin "object.__setattr__")))
    (h4 : PySem.W.findIn K (.ref C) "__getattribute__" = some (some (.builtin "BaseException.__getattribute__"))) (h5 : PySem.W.findIn K (.ref C) "__getattr__" = some none) (h6 : PySem.W.findIn K (.ref C) "__init__" = some (some (.ref fI)))
    (h7 : PySem.W.typeIn K (.ref fI) = some (.type "function")) (h8 : PySem.W.keepIn K (.ref C) = true) (h9 : PySem.W.subIn K (.ref C) (.type "BaseException") = some true) (h10 : PySem.W.subIn K (.ref C) (.type "ValueError") = some true)
    (h11 : PySem.W.typeIn K (.ref C) = some (.type "type")) (h12 : PySem.W.hasDictIn K C = true) (h13 : PySem.W.ks_superIn K C C "__init__" = some (some (.builtin "ValueError.__init__"))) (h14 : PySem.W.mroIn K C (.ref C) = some true) (h15 : PySem.W.exmOne K (.ref C) (.ref C) = some true)
    (h16 : PySem.W.nsIn K cStatics "thirdparty.any" = some none) (h17 : K.lookup fI = some ⟨oc, od, .func (PySem.W.ksFn "__init__" "Waits.__init__" (defArgs s_WaitsU_initU) (defBody s_WaitsU_initU) (defScope s_WaitsU_initU) .none .none doc pm an (.ref cda) ct cc), osl⟩) (h18 : PySem.W.codeIn K (.ref cda) "Waits.__init__" = true)
    (h19 : K.lookup cda = some ⟨ccl, cdd, .fields vs, ccs⟩) (h20 : vs[2]? = some (.str P.main.file tf)) (h21 : K.lookup cc = some ⟨cl, cld, .cell (some (.ref C)), csl⟩) (nf0 : PySem.W.findIn K (.ref C) "word" = some none) (nf1 : PySem.W.findIn K (.ref C) "record" = some none) : ErrC P K C fI s_WaitsU_initU "Waits.__init__" ["record"] ef_Waits := by
  refine ⟨⟨nm, qn, N, bs, bm, sn, sub, ab, col, dd, k0, k1, k2, k3, k5, h1, h2⟩, h3, h4, h5, ?_, h6, h7, h8, h9, h10, h11, h12, h13, h14, h15, h16, ⟨oc, od, doc, pm, an, cda, cc, ct, osl, ccl, cdd, vs, ccs, tf, cl, cld, csl, h17, h18, h19, h20, h21⟩, ⟨_, rfl, rfl⟩, (fun _ _ _ _ _ _ us hl => match us, hl with | [_, _], _ => rfl),
    ⟨_, _, _, _, _, _, _, _, _, rfl, (.con (.par (i := 0) rfl .nil)), fun L cda cc => ⟨_, rfl⟩⟩, rfl, rfl, rfl, by decide +kernel, by decide +kernel, rfl, rfl, by decide +kernel, by decide +kernel⟩
  intro p hp
  rcases List.mem_cons.mp hp with rfl | hp
  · exact nf0
  rcases List.mem_cons.mp hp with rfl | hp
  · exact nf1
  · exact absurd hp (by simp)
abbrev ef_NoRecord : List (Str × Sum Nat Str) := [("record", .inl 0)]
theorem ec_NoRecord {K : PySem.W.Frag} {C fI : Addr} {nm qn : Str} {N : Addr} {bs bm : List Value} {sn : List Str} {sub : List Value} {ab : Bool} {col : Option Bool} {dd : Option Addr} {k0 k1 k2 k3 k5 : Option Value}
    {oc : Value} {od : Option Addr} {doc pm : Value} {an : Option Addr} {cda cc : Addr} {ct : Value} {osl : Array (Option Value)} {ccl : Value} {cdd : Option Addr} {vs : Array Value} {ccs : Array (Option Value)} {tf : Tok} {cl : Value} {cld : Option Addr} {csl : Array (Option Value)}
    (h1 : K.lookup C = some (excClassObj nm qn C N bs bm true sn sub ab col dd k0 k1 k2 k3 k5 "ValueError.__new__")) (h2 : PySem.HandSPX.refsVE bm = true) (h3 : PySem.W.findIn K (.ref C) "__setattr__" = some (some (.builtin "object.__setattr__")))
    (h4 : PySem.W.findIn K (.ref C) "__getattribute__" = some (some (.builtin "BaseException.__getattribute__"))) (h5 : PySem.W.findIn K (.ref C) "__getattr__" = some none) (h6 : PySem.W.findIn K (.ref C) "__init__" = some (some (.ref fI)))
    (h7 : PySem.W.typeIn K (.ref fI) = some (.type "function")) (h8 : PySem.W.keepIn K (.ref C) = true) (h9 : PySem.W.subIn K (.ref C) (.type "BaseException") = some true) (h10 : PySem.W.subIn K (.ref C) (.type "ValueError") = some true)
    (h11 : PySem.W.typeIn K (.ref C) = some (.type "type")) (h12 : PySem.W.hasDictIn K C = true) (h13 : PySem.W.ks_superIn K C C "__init__" = some (some (.builtin "ValueError.__init__"))) (h14 : PySem.W.mroIn K C (.ref C) = some true) (h15 : PySem.W.exmOne K (.ref C) (.ref C) = some true)
    (h16 : PySem.W.nsIn K cStatics "thirdparty.any" = some none) (h17 : K.lookup fI = some ⟨oc, od, .func (PySem.W.ksFn "__init__" "NoRecord.__init__" (defArgs s_NoRecordU_initU) (defBody s_NoRecordU_initU) (defScope s_NoRecordU_initU) .none .none doc pm an (.ref cda) ct cc), osl⟩) (h18 : PySem.W.codeIn K (.ref cda) "NoRecord.__init__" = true)
    (h19 : K.lookup cda = some ⟨ccl, cdd, .fields vs, ccs⟩) (h20 : vs[2]? = some (.str P.main.file tf)) (h21 : K.lookup cc = some ⟨cl, cld, .cell (some (.ref C)), csl⟩) (nf0 : PySem.W.findIn K (.ref C) "record" = some none) : ErrC P K C fI s_NoRecordU_initU "NoRecord.__init__" ["record"] ef_NoRecord := by
  refine ⟨⟨nm, qn, N, bs, bm, sn, sub, ab, col, dd, k0, k1, k2, k3, k5, h1, h2⟩, h3, h4, h5, ?_, h6, h7, h8, h9, h10, h11, h12, h13, h14, h15, h16, ⟨oc, od, doc, pm, an, cda, cc, ct, osl, ccl, cdd, vs, ccs, tf, cl, cld, csl, h17, h18, h19, h20, h21⟩, ⟨_, rfl, rfl⟩, (fun _ _ _ _ _ _ us hl => match us, hl with | [_, _], _ => rfl),
    ⟨_, _, _, _, _, _, _, _, _, rfl, (.par (i := 0) rfl .nil), fun L cda cc => ⟨_, rfl⟩⟩, rfl, rfl, rfl, by decide +kernel, by decide +kernel, rfl, rfl, by decide +kernel, by decide +kernel⟩
  intro p hp
  rcases List.mem_cons.mp hp with rfl | hp
  · exact nf0
  · exact absurd hp (by simp)
abbrev ef_BadWord : List (Str × Sum Nat Str) := [("word", .inl 0)]
theorem ec_BadWord {K : PySem.W.Frag} {C fI : Addr} {nm qn : Str} {N : Addr} {bs bm : List Value} {sn : List Str} {sub : List Value} {ab : Bool} {col : Option Bool} {dd : Option Addr} {k0 k1 k2 k3 k5 : Option Value}
    {oc : Value} {od : Option Addr} {doc pm : Value} {an : Option Addr} {cda cc : Addr} {ct : Value} {osl : Array (Option Value)} {ccl : Value} {cdd : Option Addr} {vs : Array Value} {ccs : Array (Option Value)} {tf : Tok} {cl : Value} {cld : Option Addr} {csl : Array (Option Value)}
    (h1 : K.lookup C = some (excClassObj nm qn C N bs bm true sn sub ab col dd k0 k1 k2 k3 k5 "ValueError.__new__")) (h2 : PySem.HandSPX.refsVE bm = true) (h3 : PySem.W.findIn K (.ref C) "__setattr__" = some (some (.builtin "object.__setattr__")))
    (h4 : PySem.W.findIn K (.ref C) "__getattribute__" = some (some (.builtin "BaseException.__getattribute__"))) (h5 : PySem.W.findIn K (.ref C) "__getattr__" = some none) (h6 : PySem.W.findIn K (.ref C) "__init__" = some (some (.ref fI)))
    (h7 : PySem.W.typeIn K (.ref fI) = some (.type "function")) (h8 : PySem.W.keepIn K (.ref C) = true) (h9 : PySem.W.subIn K (.ref C) (.type "BaseException") = some true) (h10 : PySem.W.subIn K (.ref C) (.type "ValueError") = some true)
    (h11 : PySem.W.typeIn K (.ref C) = some (.type "type")) (h12 : PySem.W.hasDictIn K C = true) (h13 : PySem.W.ks_superIn K C C "__init__" = some (some (.builtin "ValueError.__init__"))) (h14 : PySem.W.mroIn K C (.ref C) = some true) (h15 : PySem.W.exmOne K (.ref C) (.ref C) = some true)
    (h16 : PySem.W.nsIn K cStatics "thirdparty.any" = some none) (h17 : K.lookup fI = some ⟨oc, od, .func (PySem.W.ksFn "__init__" "BadWord.__init__" (defArgs s_BadWordU_initU) (defBody s_BadWordU_initU) (defScope s_BadWordU_initU) .none .none doc pm an (.ref cda) ct cc), osl⟩) (h18 : PySem.W.codeIn K (.ref cda) "BadWord.__init__" = true)
    (h19 : K.lookup cda = some ⟨ccl, cdd, .fields vs, ccs⟩) (h20 : vs[2]? = some (.str P.main.file tf)) (h21 : K.lookup cc = some ⟨cl, cld, .cell (some (.ref C)), csl⟩) (nf0 : PySem.W.findIn K (.ref C) "word" = some none) : ErrC P K C fI s_BadWordU_initU "BadWord.__init__" ["word"] ef_BadWord := by
  refine ⟨⟨nm, qn, N, bs, bm, sn, sub, ab, col, dd, k0, k1, k2, k3, k5, h1, h2⟩, h3, h4, h5, ?_, h6, h7, h8, h9, h10, h11, h12, h13, h14, h15, h16, ⟨oc, od, doc, pm, an, cda, cc, ct, osl, ccl, cdd, vs, ccs, tf, cl, cld, csl, h17, h18, h19, h20, h21⟩, ⟨_, rfl, rfl⟩, (fun _ _ _ _ _ _ us hl => match us, hl with | [_, _], _ => rfl),
    ⟨_, _, _, _, _, _, _, _, _, rfl, (.par (i := 0) rfl .nil), fun L cda cc => ⟨_, rfl⟩⟩, rfl, rfl, rfl, by decide +kernel, by decide +kernel, rfl, rfl, by decide +kernel, by decide +kernel⟩
  intro p hp
  rcases List.mem_cons.mp hp with rfl | hp
  · exact nf0
  · exact absurd hp (by simp)
abbrev ef_BadMode : List (Str × Sum Nat Str) := [("mode", .inl 0)]
theorem ec_BadMode {K : PySem.W.Frag} {C fI : Addr} {nm qn : Str} {N : Addr} {bs bm : List Value} {sn : List Str} {sub : List Value} {ab : Bool} {col : Option Bool} {dd : Option Addr} {k0 k1 k2 k3 k5 : Option Value}
    {oc : Value} {od : Option Addr} {doc pm : Value} {an : Option Addr} {cda cc : Addr} {ct : Value} {osl : Array (Option Value)} {ccl : Value} {cdd : Option Addr} {vs : Array Value} {ccs : Array (Option Value)} {tf : Tok} {cl : Value} {cld : Option Addr} {csl : Array (Option Value)}
    (h1 : K.lookup C = some (excClassObj nm qn C N bs bm true sn sub ab col dd k0 k1 k2 k3 k5 "ValueError.__new__")) (h2 : PySem.HandSPX.refsVE bm = true) (h3 : PySem.W.findIn K (.ref C) "__setattr__" = some (some (.builtin "object.__setattr__")))
    (h4 : PySem.W.findIn K (.ref C) "__getattribute__" = some (some (.builtin "BaseException.__getattribute__"))) (h5 : PySem.W.findIn K (.ref C) "__getattr__" = some none) (h6 : PySem.W.findIn K (.ref C) "__init__" = some (some (.ref fI)))
    (h7 : PySem.W.typeIn K (.ref fI) = some (.type "function")) (h8 : PySem.W.keepIn K (.ref C) = true) (h9 : PySem.W.subIn K (.ref C) (.type "BaseException") = some true) (h10 : PySem.W.subIn K (.ref C) (.type "ValueError") = some true)
    (h11 : PySem.W.typeIn K (.ref C) = some (.type "type")) (h12 : PySem.W.hasDictIn K C = true) (h13 : PySem.W.ks_superIn K C C "__init__" = some (some (.builtin "ValueError.__init__"))) (h14 : PySem.W.mroIn K C (.ref C) = some true) (h15 : PySem.W.exmOne K (.ref C) (.ref C) = some true)
    (h16 : PySem.W.nsIn K cStatics "thirdparty.any" = some none) (h17 : K.lookup fI = some ⟨oc, od, .func (PySem.W.ksFn "__init__" "BadMode.__init__" (defArgs s_BadModeU_initU) (defBody s_BadModeU_initU) (defScope s_BadModeU_initU) .none .none doc pm an (.ref cda) ct cc), osl⟩) (h18 : PySem.W.codeIn K (.ref cda) "BadMode.__init__" = true)
    (h19 : K.lookup cda = some ⟨ccl, cdd, .fields vs, ccs⟩) (h20 : vs[2]? = some (.str P.main.file tf)) (h21 : K.lookup cc = some ⟨cl, cld, .cell (some (.ref C)), csl⟩) (nf0 : PySem.W.findIn K (.ref C) "mode" = some none) : ErrC P K C fI s_BadModeU_initU "BadMode.__init__" ["mode"] ef_BadMode := by
  refine ⟨⟨nm, qn, N, bs, bm, sn, sub, ab, col, dd, k0, k1, k2, k3, k5, h1, h2⟩, h3, h4, h5, ?_, h6, h7, h8, h9, h10, h11, h12, h13, h14, h15, h16, ⟨oc, od, doc, pm, an, cda, cc, ct, osl, ccl, cdd, vs, ccs, tf, cl, cld, csl, h17, h18, h19, h20, h21⟩, ⟨_, rfl, rfl⟩, (fun _ _ _ _ _ _ us hl => match us, hl with | [_, _], _ => rfl),
    ⟨_, _, _, _, _, _, _, _, _, rfl, (.par (i := 0) rfl .nil), fun L cda cc => ⟨_, rfl⟩⟩, rfl, rfl, rfl, by decide +kernel, by decide +kernel, rfl, rfl, by decide +kernel, by decide +kernel⟩
  intro p hp
  rcases List.mem_cons.mp hp with rfl | hp
  · exact nf0
  · exact absurd hp (by simp)
structure Ad where
  Mode : Addr
  Mode_ALL : Addr
  Mode_is_mode : Addr
  p_Mode_is_mode : Addr
  is_word : Addr
  InnercommitsError : Addr
  Missing : Addr
  MissingU_initU : Addr
  Present : Addr
  PresentU_initU : Addr
  Doomed : Addr
  DoomedU_initU : Addr
  Refused : Addr
  RefusedU_initU : Addr
  NoBlock : Addr
  NoBlockU_initU : Addr
  Waits : Addr
  WaitsU_initU : Addr
  NoRecord : Addr
  NoRecordU_initU : Addr
  BadWord : Addr
  BadWordU_initU : Addr
  BadMode : Addr
  BadModeU_initU : Addr
  Write : Addr
  WriteU_initU : Addr
  Transaction : Addr
  TransactionU_initU : Addr
  Database : Addr
  DatabaseU_initU : Addr
  Database_begin : Addr
  Database_enter_alone : Addr
  Database_enter_inside : Addr
  Database_enter : Addr
  Database_doom : Addr
  Database_end_level : Addr
  Database_end_transaction : Addr
  Database_leave : Addr
  Database_held_by : Addr
  Database_held_records : Addr
  Database_outer_records : Addr
  Database_would_wait : Addr
  Database_write : Addr
  DatabaseU_setitemU : Addr
  Database_kept_values : Addr
  Database_fates : Addr
  Database_is_open : Addr
  p_Database_is_open : Addr
  Database_is_doomed : Addr
  p_Database_is_doomed : Addr
  Database_reason : Addr
  p_Database_reason : Addr
  Database_levels : Addr
  p_Database_levels : Addr
  Database_depth : Addr
  p_Database_depth : Addr
  law_pool : Addr
  law_draw : Addr
  law_word : Addr
  law_seen : Addr
  law_try : Addr
  law_inside : Addr
  law : Addr
structure Fd where
  Mode_is_mode : FuncData
  is_word : FuncData
  WriteU_initU : FuncData
  TransactionU_initU : FuncData
  DatabaseU_initU : FuncData
  Database_begin : FuncData
  Database_enter_alone : FuncData
  Database_enter_inside : FuncData
  Database_enter : FuncData
  Database_doom : FuncData
  Database_end_level : FuncData
  Database_end_transaction : FuncData
  Database_leave : FuncData
  Database_held_by : FuncData
  Database_held_records : FuncData
  Database_outer_records : FuncData
  Database_would_wait : FuncData
  Database_write : FuncData
  DatabaseU_setitemU : FuncData
  Database_kept_values : FuncData
  Database_fates : FuncData
  Database_is_open : FuncData
  Database_is_doomed : FuncData
  Database_reason : FuncData
  Database_levels : FuncData
  Database_depth : FuncData
  law_pool : FuncData
  law_draw : FuncData
  law_word : FuncData
  law_seen : FuncData
  law_try : FuncData
  law_inside : FuncData
  law : FuncData
structure Txt (K : PySem.W.Frag) (mg : Str → Option Value) (a : Ad) (d : Fd) : Prop where
  g_Mode : mg "Mode" = some (.ref a.Mode)
  r_Mode : ClX.CRead K a.Mode (.type "type")
  c_Mode_JOIN : ∃ u, ClX.CVal K a.Mode (.type "type") "JOIN" (.str "join") u
  c_Mode_INNER : ∃ u, ClX.CVal K a.Mode (.type "type") "INNER" (.str "inner") u
  c_Mode_APART : ∃ u, ClX.CVal K a.Mode (.type "type") "APART" (.str "apart") u
  c_Mode_MUST : ∃ u, ClX.CVal K a.Mode (.type "type") "MUST" (.str "must") u
  c_Mode_EITHER : ∃ u, ClX.CVal K a.Mode (.type "type") "EITHER" (.str "either") u
  c_Mode_NEVER : ∃ u, ClX.CVal K a.Mode (.type "type") "NEVER" (.str "never") u
  c_Mode_OUTSIDE : ∃ u, ClX.CVal K a.Mode (.type "type") "OUTSIDE" (.str "outside") u
  c_Mode_ALONE : ∃ u, ClX.CVal K a.Mode (.type "type") "ALONE" (.str "alone") u
  c_Mode_ALL : ∃ u, ClX.CVal K a.Mode (.type "type") "ALL" (.ref a.Mode_ALL) u
  q_Mode_ALL : (∀ H, SqT K H a.Mode_ALL [.str "join", .str "inner", .str "apart", .str "must", .str "either", .str "never", .str "outside", .str "alone"])
  k_Mode_ALL : (∃ o, K.lookup a.Mode_ALL = some o ∧ o.cls = .type "tuple")
  Mode_is_mode : Fun K "is_mode" "Mode.is_mode" s_Mode_is_mode a.Mode_is_mode d.Mode_is_mode
  b_Mode_is_mode : Binds K d.Mode_is_mode ["thing"] []
  s_Mode_is_mode : SMet K a.Mode (.type "type") "is_mode" a.p_Mode_is_mode a.Mode_is_mode
  is_word : Fun K "is_word" "is_word" s_is_word a.is_word d.is_word
  b_is_word : Binds K d.is_word ["thing"] []
  g_is_word : mg "is_word" = some (.ref a.is_word)
  g_InnercommitsError : mg "InnercommitsError" = some (.ref a.InnercommitsError)
  g_Missing : mg "Missing" = some (.ref a.Missing)
  e_Missing : ErrC P K a.Missing a.MissingU_initU s_MissingU_initU "Missing.__init__" ["mode"] ef_Missing
  g_Present : mg "Present" = some (.ref a.Present)
  e_Present : ErrC P K a.Present a.PresentU_initU s_PresentU_initU "Present.__init__" ["mode"] ef_Present
  g_Doomed : mg "Doomed" = some (.ref a.Doomed)
  e_Doomed : ErrC P K a.Doomed a.DoomedU_initU s_DoomedU_initU "Doomed.__init__" ["first"] ef_Doomed
  g_Refused : mg "Refused" = some (.ref a.Refused)
  e_Refused : ErrC P K a.Refused a.RefusedU_initU s_RefusedU_initU "Refused.__init__" [] ef_Refused
  g_NoBlock : mg "NoBlock" = some (.ref a.NoBlock)
  e_NoBlock : ErrC P K a.NoBlock a.NoBlockU_initU s_NoBlockU_initU "NoBlock.__init__" [] ef_NoBlock
  g_Waits : mg "Waits" = some (.ref a.Waits)
  e_Waits : ErrC P K a.Waits a.WaitsU_initU s_WaitsU_initU "Waits.__init__" ["record"] ef_Waits
  g_NoRecord : mg "NoRecord" = some (.ref a.NoRecord)
  e_NoRecord : ErrC P K a.NoRecord a.NoRecordU_initU s_NoRecordU_initU "NoRecord.__init__" ["record"] ef_NoRecord
  g_BadWord : mg "BadWord" = some (.ref a.BadWord)
  e_BadWord : ErrC P K a.BadWord a.BadWordU_initU s_BadWordU_initU "BadWord.__init__" ["word"] ef_BadWord
  g_BadMode : mg "BadMode" = some (.ref a.BadMode)
  e_BadMode : ErrC P K a.BadMode a.BadModeU_initU s_BadModeU_initU "BadMode.__init__" ["mode"] ef_BadMode
  x_Missing_InnercommitsError : PySem.W.exmOne K (.ref a.Missing) (.ref a.InnercommitsError) = some true
  x_Present_InnercommitsError : PySem.W.exmOne K (.ref a.Present) (.ref a.InnercommitsError) = some true
  x_Doomed_InnercommitsError : PySem.W.exmOne K (.ref a.Doomed) (.ref a.InnercommitsError) = some true
  x_Refused_InnercommitsError : PySem.W.exmOne K (.ref a.Refused) (.ref a.InnercommitsError) = some true
  x_NoBlock_InnercommitsError : PySem.W.exmOne K (.ref a.NoBlock) (.ref a.InnercommitsError) = some true
  x_Waits_InnercommitsError : PySem.W.exmOne K (.ref a.Waits) (.ref a.InnercommitsError) = some true
  x_NoRecord_InnercommitsError : PySem.W.exmOne K (.ref a.NoRecord) (.ref a.InnercommitsError) = some true
  x_BadWord_InnercommitsError : PySem.W.exmOne K (.ref a.BadWord) (.ref a.InnercommitsError) = some true
  x_BadMode_InnercommitsError : PySem.W.exmOne K (.ref a.BadMode) (.ref a.InnercommitsError) = some true
  g_Write : mg "Write" = some (.ref a.Write)
  k_Write : Cls K a.Write
  na_Write_record : NoAttr K a.Write "record"
  na_Write_value : NoAttr K a.Write "value"
  na_Write_fate : NoAttr K a.Write "fate"
  na_Write_holder : NoAttr K a.Write "holder"
  na_Write_level : NoAttr K a.Write "level"
  WriteU_initU : Fun K "__init__" "Write.__init__" s_WriteU_initU a.WriteU_initU d.WriteU_initU
  b_WriteU_initU : Binds K d.WriteU_initU ["self", "record", "value", "fate", "holder", "level"] []
  mk_Write : Mk K a.Write a.WriteU_initU
  g_Transaction : mg "Transaction" = some (.ref a.Transaction)
  k_Transaction : Cls K a.Transaction
  na_Transaction_number : NoAttr K a.Transaction "number"
  na_Transaction_reasons : NoAttr K a.Transaction "reasons"
  TransactionU_initU : Fun K "__init__" "Transaction.__init__" s_TransactionU_initU a.TransactionU_initU d.TransactionU_initU
  b_TransactionU_initU : Binds K d.TransactionU_initU ["self", "number"] []
  mk_Transaction : Mk K a.Transaction a.TransactionU_initU
  g_Database : mg "Database" = some (.ref a.Database)
  k_Database : Cls K a.Database
  na_Database_rows : NoAttr K a.Database "rows"
  na_Database_stack : NoAttr K a.Database "stack"
  na_Database_entered : NoAttr K a.Database "entered"
  na_Database_floor : NoAttr K a.Database "floor"
  na_Database_opened : NoAttr K a.Database "opened"
  DatabaseU_initU : Fun K "__init__" "Database.__init__" s_DatabaseU_initU a.DatabaseU_initU d.DatabaseU_initU
  b_DatabaseU_initU : Binds K d.DatabaseU_initU ["self"] []
  mk_Database : Mk K a.Database a.DatabaseU_initU
  Database_begin : Fun K "begin" "Database.begin" s_Database_begin a.Database_begin d.Database_begin
  b_Database_begin : Binds K d.Database_begin ["self"] []
  m_Database_begin : Meth K a.Database "begin" a.Database_begin
  Database_enter_alone : Fun K "enter_alone" "Database.enter_alone" s_Database_enter_alone a.Database_enter_alone d.Database_enter_alone
  b_Database_enter_alone : Binds K d.Database_enter_alone ["self", "mode"] []
  m_Database_enter_alone : Meth K a.Database "enter_alone" a.Database_enter_alone
  Database_enter_inside : Fun K "enter_inside" "Database.enter_inside" s_Database_enter_inside a.Database_enter_inside d.Database_enter_inside
  b_Database_enter_inside : Binds K d.Database_enter_inside ["self", "mode", "present"] []
  m_Database_enter_inside : Meth K a.Database "enter_inside" a.Database_enter_inside
  Database_enter : Fun K "enter" "Database.enter" s_Database_enter a.Database_enter d.Database_enter
  b_Database_enter : Binds K d.Database_enter ["self", "mode"] []
  m_Database_enter : Meth K a.Database "enter" a.Database_enter
  Database_doom : FunD K "doom" "Database.doom" (defArgs s_Database_doom) (defBody s_Database_doom) (defScope s_Database_doom) [.str "doom"] [] a.Database_doom d.Database_doom
  m_Database_doom : Meth K a.Database "doom" a.Database_doom
  Database_end_level : Fun K "end_level" "Database.end_level" s_Database_end_level a.Database_end_level d.Database_end_level
  b_Database_end_level : Binds K d.Database_end_level ["self", "error"] []
  m_Database_end_level : Meth K a.Database "end_level" a.Database_end_level
  Database_end_transaction : Fun K "end_transaction" "Database.end_transaction" s_Database_end_transaction a.Database_end_transaction d.Database_end_transaction
  b_Database_end_transaction : Binds K d.Database_end_transaction ["self", "error", "commits"] []
  m_Database_end_transaction : Meth K a.Database "end_transaction" a.Database_end_transaction
  Database_leave : FunD K "leave" "Database.leave" (defArgs s_Database_leave) (defBody s_Database_leave) (defScope s_Database_leave) [.non] [("commits", .bl true)] a.Database_leave d.Database_leave
  m_Database_leave : Meth K a.Database "leave" a.Database_leave
  Database_held_by : Fun K "held_by" "Database.held_by" s_Database_held_by a.Database_held_by d.Database_held_by
  b_Database_held_by : Binds K d.Database_held_by ["self", "numbers"] []
  m_Database_held_by : Meth K a.Database "held_by" a.Database_held_by
  Database_held_records : Fun K "held_records" "Database.held_records" s_Database_held_records a.Database_held_records d.Database_held_records
  b_Database_held_records : Binds K d.Database_held_records ["self"] []
  m_Database_held_records : Meth K a.Database "held_records" a.Database_held_records
  Database_outer_records : Fun K "outer_records" "Database.outer_records" s_Database_outer_records a.Database_outer_records d.Database_outer_records
  b_Database_outer_records : Binds K d.Database_outer_records ["self"] []
  m_Database_outer_records : Meth K a.Database "outer_records" a.Database_outer_records
  Database_would_wait : Fun K "would_wait" "Database.would_wait" s_Database_would_wait a.Database_would_wait d.Database_would_wait
  b_Database_would_wait : Binds K d.Database_would_wait ["self", "record"] []
  m_Database_would_wait : Meth K a.Database "would_wait" a.Database_would_wait
  Database_write : Fun K "write" "Database.write" s_Database_write a.Database_write d.Database_write
  b_Database_write : Binds K d.Database_write ["self", "record", "value"] []
  m_Database_write : Meth K a.Database "write" a.Database_write
  DatabaseU_setitemU : Fun K "__setitem__" "Database.__setitem__" s_DatabaseU_setitemU a.DatabaseU_setitemU d.DatabaseU_setitemU
  b_DatabaseU_setitemU : Binds K d.DatabaseU_setitemU ["self", "record", "value"] []
  m_DatabaseU_setitemU : Meth K a.Database "__setitem__" a.DatabaseU_setitemU
  Database_kept_values : Fun K "kept_values" "Database.kept_values" s_Database_kept_values a.Database_kept_values d.Database_kept_values
  b_Database_kept_values : Binds K d.Database_kept_values ["self"] []
  m_Database_kept_values : Meth K a.Database "kept_values" a.Database_kept_values
  Database_fates : Fun K "fates" "Database.fates" s_Database_fates a.Database_fates d.Database_fates
  b_Database_fates : Binds K d.Database_fates ["self"] []
  m_Database_fates : Meth K a.Database "fates" a.Database_fates
  Database_is_open : Fun K "is_open" "Database.is_open" s_Database_is_open a.Database_is_open d.Database_is_open
  b_Database_is_open : Binds K d.Database_is_open ["self"] []
  m_Database_is_open : PropOf K a.Database "is_open" a.p_Database_is_open a.Database_is_open
  Database_is_doomed : Fun K "is_doomed" "Database.is_doomed" s_Database_is_doomed a.Database_is_doomed d.Database_is_doomed
  b_Database_is_doomed : Binds K d.Database_is_doomed ["self"] []
  m_Database_is_doomed : PropOf K a.Database "is_doomed" a.p_Database_is_doomed a.Database_is_doomed
  Database_reason : Fun K "reason" "Database.reason" s_Database_reason a.Database_reason d.Database_reason
  b_Database_reason : Binds K d.Database_reason ["self"] []
  m_Database_reason : PropOf K a.Database "reason" a.p_Database_reason a.Database_reason
  Database_levels : Fun K "levels" "Database.levels" s_Database_levels a.Database_levels d.Database_levels
  b_Database_levels : Binds K d.Database_levels ["self"] []
  m_Database_levels : PropOf K a.Database "levels" a.p_Database_levels a.Database_levels
  Database_depth : Fun K "depth" "Database.depth" s_Database_depth a.Database_depth d.Database_depth
  b_Database_depth : Binds K d.Database_depth ["self"] []
  m_Database_depth : PropOf K a.Database "depth" a.p_Database_depth a.Database_depth
  ns_Database : PySem.W.noSeq K a.Database = true
  law_pool : Fun K "_law_pool" "_law_pool" s_law_pool a.law_pool d.law_pool
  b_law_pool : Binds K d.law_pool ["_law_script", "_law_at"] []
  g_law_pool : mg "_law_pool" = some (.ref a.law_pool)
  law_draw : Fun K "_law_draw" "_law_draw" s_law_draw a.law_draw d.law_draw
  b_law_draw : Binds K d.law_draw ["_law_pool_here", "_law_many"] []
  g_law_draw : mg "_law_draw" = some (.ref a.law_draw)
  law_word : Fun K "_law_word" "_law_word" s_law_word a.law_word d.law_word
  b_law_word : Binds K d.law_word ["_law_pool_here"] []
  g_law_word : mg "_law_word" = some (.ref a.law_word)
  law_seen : Fun K "_law_seen" "_law_seen" s_law_seen a.law_seen d.law_seen
  b_law_seen : Binds K d.law_seen ["_law_db"] []
  g_law_seen : mg "_law_seen" = some (.ref a.law_seen)
  law_try : Fun K "_law_try" "_law_try" s_law_try a.law_try d.law_try
  b_law_try : Binds K d.law_try ["_law_db", "_law_deed", "_law_word_here", "_law_value"] []
  g_law_try : mg "_law_try" = some (.ref a.law_try)
  law_inside : Fun K "_law_inside" "_law_inside" s_law_inside a.law_inside d.law_inside
  b_law_inside : Binds K d.law_inside ["_law_pool_here", "_law_db"] []
  g_law_inside : mg "_law_inside" = some (.ref a.law_inside)
  law : Fun K "law" "law" s_law a.law d.law
  b_law : Binds K d.law ["_law_script"] []
  g_law : mg "law" = some (.ref a.law)
  n_isinstance : mg "isinstance" = none
  n_str : mg "str" = none
  n_len : mg "len" = none
  n_super : mg "super" = none
  n_sorted : mg "sorted" = none
  n_abs : mg "abs" = none
  n_int : mg "int" = none
  n_range : mg "range" = none
  n_list : mg "list" = none
  n_repr : mg "repr" = none
  n_max : mg "max" = none
  n_min : mg "min" = none

section
variable {w : World} {K : PySem.W.Frag} {mg : Str → Option Value} {base : Heap} {a : Ad} {d : Fd}
theorem ok_law_draw (T : Txt K mg a d) : FnOk P w K mg base CX0 1 a.law_draw d.law_draw ["_law_pool_here", "_law_many"] spDraw := by
  refine T.law_draw.ok sc_law_draw (fun vs H Q E h => ?_) (fun cdv A outer s H vs Q E hr h => ?_)
  · obtain ⟨p, m, c, o, rfl, _⟩ := h
    rfl
  · obtain ⟨p, m, c, o, rfl, hp, ⟨x, y, n, rfl, hx, hy, hy2, hn, hn2⟩, hm, hm2, hc, k⟩ := h
    have hw : ∀ i : Int, CDivW i m := fun i => wide_div (b := 200) hm (by omega) (by decide) (by decide)
    have e1 : (b2 : Int) → 0 ≤ b2 → b2 < 2 ^ 62 → CPow (b2 + 48611 * (n + 1)) 3 := fun b2 h1 h2 => ⟨by decide, by decide, by omega⟩
    have e2 : (b2 : Int) → 0 ≤ b2 → b2 < 2 ^ 62 → CPow (b2 + 104729 * (n + 1)) 3 := fun b2 h1 h2 => ⟨by decide, by decide, by omega⟩
    have e3 : ∀ i j : Int, -1000000 < i → i < 1000000 → CMul i j := fun i j h1 h2 => .inl ⟨by omega, by omega⟩
    refine ⟨_, (pss_cons (ps_if (pt_cmpR op_gt (pe_ix ix_list (pv 0) pe_int (fun _ _ => rfl)) pe_int (nomark _)) (pss_cons (ps_set (i := 2) sc_law_draw.nd rfl (Or.inl rfl) (pe_op op_mod (pe_callTy call_int1 (by rfl) T.n_int (by decide +kernel) (pa_cons (pe_ix ix_list (pv 0) pe_int (fun _ _ => rfl)) pa_nil)) (pv 1)))
  (pss_cons (ps_asg (pe_op op_fdivW (pe_ix ix_list (pv 0) pe_int (fun _ _ => rfl)) (pv 1)) (pg_sub (pv 0) pe_int set_list))
  (pss_one (ps_ret (pv 2))))) pss_nil)
  (pss_cons (ps_set (i := 3) sc_law_draw.nd rfl (Or.inl rfl) (pe_op op_add (pe_ix ix_list (pv 0) pe_int (fun _ _ => rfl)) pe_int))
  (pss_cons (ps_asg (pv 3) (pg_sub (pv 0) pe_int set_list))
  (pss_cons (ps_set (i := 4) sc_law_draw.nd rfl (Or.inl rfl) (pe_op op_mod (pe_callTy call_int1 (by rfl) T.n_int (by decide +kernel) (pa_cons (pe_op op_add (pe_op op_pow (pe_op op_add (pe_ix ix_list (pv 0) pe_int (fun _ _ => rfl)) (pe_op op_mul pe_int (pv 3))) pe_int) (pe_op op_mul pe_int (pv 3))) pa_nil)) pe_int))
  (pss_cons (ps_set (i := 4) sc_law_draw.nd rfl (Or.inl rfl) (pe_op op_mod (pe_callTy call_int1 (by rfl) T.n_int (by decide +kernel) (pa_cons (pe_op op_pow (pe_op op_add (pv 4) (pe_op op_mul pe_int (pv 3))) pe_int) pa_nil)) pe_int))
  (pss_one (ps_ret (pe_op op_mod (pe_callTy call_int1 (by rfl) T.n_int (by decide +kernel) (pa_cons (pe_op op_fdivW (pv 4) pe_int) pa_nil)) (pv 1))))))))), ?_⟩
    dsimp only [cxOf]
    walk_at "rd"
    refine ite2 (fun c0 => ?_) (fun c0 => ?_)
    · have c1 : 0 < x := of_decide_eq_true c0
      walk_at "rd"
      refine And.intro (hw _) ?_
      walk_at "rd"
      refine k _ _ (Int.emod_nonneg _ (by omega)) (Int.emod_lt_of_pos _ hm) ⟨_, _, _, rfl, Int.ediv_nonneg (by omega) (by omega), hy, hy2, hn, by omega⟩
    · walk_at "rd"
      refine And.intro (e1 _ hy hy2) ?_
      walk_at "rd"
      refine And.intro (e2 _ (Int.emod_nonneg _ (by decide)) (Int.lt_trans (Int.emod_lt_of_pos _ (by decide)) (by decide))) ?_
      walk_at "rd"
      refine k _ _ (Int.emod_nonneg _ (by omega)) (Int.emod_lt_of_pos _ hm) ⟨_, _, _, rfl, hx, hy, hy2, by omega, by omega⟩
theorem ok_law_pool (T : Txt K mg a d) : FnOk P w K mg base CX0 1 a.law_pool d.law_pool ["_law_script", "_law_at"] (spPool K) := by
  refine T.law_pool.ok sc_law_pool (fun vs H Q E h => ?_) (fun cdv A outer s H vs Q E hr h => ?_)
  · obtain ⟨p, ns, i, rfl, _⟩ := h
    rfl
  · obtain ⟨p, ns, i, rfl, hS, hi, k⟩ := h
    have e3 : ∀ i j : Int, -1000000 < i → i < 1000000 → CMul i j := fun i j h1 h2 => .inl ⟨by omega, by omega⟩
    have e4 : ∀ i j : Int, -1000000 < j → j < 1000000 → CMul i j := fun i j h1 h2 => .inr ⟨by omega, by omega⟩
    refine ⟨_, (pss_cons (ps_set (i := 2) sc_law_pool.nd rfl (Or.inl rfl) (pe_ifExp (pt_cmpR op_lt (pv 1) (pe_callB call_len_seq (by rfl) T.n_len PySem.boot_len (pa_cons (pv 0) pa_nil)) (nomark _)) (pe_ix ix_list (pv 0) (pv 1) (fun _ _ => rfl)) pe_int))
  (pss_cons (ps_set (i := 3) sc_law_pool.nd rfl (Or.inl rfl) (pe_callB call_abs (by rfl) T.n_abs (by decide +kernel) (pa_cons (pv 2) pa_nil)))
  (pss_cons (ps_set (i := 4) sc_law_pool.nd rfl (Or.inl rfl) (pe_op op_mod (pe_callTy call_int1 (by rfl) T.n_int (by decide +kernel) (pa_cons (pe_op op_add (pe_op op_add (pe_op op_mul (pv 3) pe_int) (pe_op op_mul pe_int (pv 1))) (pe_callTy call_int1 (by rfl) T.n_int (by decide +kernel) (pa_cons (pe_cmpR op_lt (pv 2) pe_int (nomark _)) pa_nil))) pa_nil)) pe_int))
  (pss_one (ps_ret (pe_lst (pa_cons (pe_ifExp (pt_cmpR op_ge (pv 3) (pe_op op_pow pe_int pe_int) (nomark _)) (pv 3) pe_int) (pa_cons (pe_op op_add (pv 4) pe_int) (pa_cons pe_int pa_nil))))))))), ?_⟩
    dsimp only [cxOf]
    walk_at "rd"
    refine ite2 (fun c0 => ?_) (fun c0 => ?_)
    · have c1 : (i : Int) < ((ns.map V.int).length : Int) := of_decide_eq_true c0
      rw [List.length_map] at c1
      have c2 : i < ns.length := by omega
      have hz : (ns.map V.int)[i]? = some (.int ns[i]) := by
        rw [List.getElem?_map, List.getElem?_eq_getElem c2]; rfl
      walk_at "rd"
      refine And.intro (atI_nat hz) ?_
      walk_at "rd"
      refine ite2 (fun c2 => ?_) (fun c2 => ?_)
      all_goals
        walk_at "rd"
        intro q hq
        exact k q _ hq ⟨_, _, _, rfl, (by first | (split <;> omega) | decide), Int.add_nonneg (Int.emod_nonneg _ (by decide)) (by decide), Int.lt_trans (Int.add_lt_add_right (Int.emod_lt_of_pos _ (by decide)) _) (by decide), Int.le_refl 0, Int.le_refl 0⟩
    · walk_at "rd"
      intro q hq
      exact k q _ hq ⟨_, _, _, rfl, Int.le_refl 0, Int.add_nonneg (Int.emod_nonneg _ (by decide)) (by decide), Int.lt_trans (Int.add_lt_add_right (Int.emod_lt_of_pos _ (by decide)) _) (by decide), Int.le_refl 0, Int.le_refl 0⟩
theorem ok_law_word (T : Txt K mg a d) : FnOk P w K mg base CX0 2 a.law_word d.law_word ["_law_pool_here"] spWord := by
  have G_law_draw : FnOk P w K mg base CX0 1 a.law_draw d.law_draw ["_law_pool_here", "_law_many"] spDraw := ok_law_draw T
  refine T.law_word.ok sc_law_word (fun vs H Q E h => ?_) (fun cdv A outer s H vs Q E hr h => ?_)
  · obtain ⟨p, c, o, rfl, _⟩ := h
    rfl
  · obtain ⟨p, c, o, rfl, hp, hc, hb, k⟩ := h
    refine ⟨_, (pss_cons (ps_set (i := 1) sc_law_word.nd rfl (Or.inr rfl) pe_str)
  (pss_one (ps_ret (pe_join pe_str (pe_lc (own := [("_law_k", 2)]) (tt := tYes) rfl sc_law_word.nd (pi_range1 (by rfl) T.n_range (pa_cons (pe_op op_add pe_int (pe_call G_law_draw (hr.mono (by decide)) (by rfl) T.g_law_draw T.law_draw.kp T.b_law_draw .nil pass0 (pa_cons (pv 0) (pa_cons pe_int pa_nil)))) pa_nil)) (blkOk_by (own := [("_law_k", 2)]) (N := ["_law_pool_here", "_law_letters", "_law_k"]) (sc := defScope s_law_word) (by decide +kernel)) (fun _ _ _ _ _ => (pg_name (i := 2) sc_law_word.nd rfl (Or.inl rfl))) (fun _ _ _ _ _ => pts_nil) (fun _ _ _ _ _ => (pe_ix ix_str (pv 1) (pe_call G_law_draw (hr.mono (by decide)) (by rfl) T.g_law_draw T.law_draw.kp T.b_law_draw .nil pass0 (pa_cons (pv 0) (pa_cons pe_int pa_nil))) (fun _ _ => rfl)))))))), ?_⟩
    dsimp only [cxOf]
    walk_at "rd"
    intro r o1 r0 r1 h1
    walk_at "rd"
    intro D hD
    refine lc_letters (c := c + 1) hD upd_same h1 (by omega) (by omega) rfl rfl (by decide) (by decide) fun H' cs o2 e1 e2 e3 e4 e5 e6 => ?_
    refine ⟨_, _, cs.map chr1, rfl, rfl, Or.inl (SqL.of e6), ?_, ?_⟩
    · rw [sum_chr, e1]
      have : (Str.ofString "").length = 0 := by decide +kernel
      rw [this]; omega
    · rw [join_chr]
      refine k _ o2 _ ⟨?_, ?_, e2⟩ (e5.mono (by omega)) e4 (Kp.refl.set1.trans e3)
      · show 1 ≤ cs.length
        omega
      · show cs.length ≤ 8
        omega
theorem ok_is_word (T : Txt K mg a d) : FnOk P w K mg base CX0 1 a.is_word d.is_word ["thing"] spIsWord := by
  refine T.is_word.ok sc_is_word (fun vs H Q E h => ?_) (fun cdv A outer s H vs Q E hr h => ?_)
  · obtain ⟨v, rfl, _⟩ := h
    rfl
  · obtain ⟨v, rfl, hv, k⟩ := h
    refine ⟨_, (pss_cons (ps_if (PW.pt (pw_or (pt_not (pt_val (pe_callB call_isi (by rfl) T.n_isinstance (by decide +kernel) (pa_cons (pv 0) (pa_cons (pe_bltn (v := .ty "str") (u := .type "str") (by rfl) T.n_str (by decide +kernel) rfl) pa_nil))))) (pw_or1 (pt_not (pt_chain op_le op_le pe_int (pe_callB call_len_str (by rfl) T.n_len PySem.boot_len (pa_cons (pv 0) pa_nil)) pe_int))))) (pss_one (ps_ret pe_bl)) pss_nil)
  (pss_cons (ps_for PassesOwn.never rfl (pi_str (pv 0)) (pg_name (i := 1) sc_is_word.nd rfl (Or.inl rfl))
  (pss_one (ps_if (pt_not (pt_chain op_le_str op_le_str pe_str (pv 1) pe_str)) (pss_one (ps_ret pe_bl)) pss_nil)))
  (pss_one (ps_ret pe_bl)))), ?_⟩
    dsimp only [cxOf]
    obtain ⟨ty, h1, h2⟩ := hv.isi (K := K)
    refine ⟨_, rfl, _, _, _, _, _, rfl, ClsV.ty _, h1, h2, _, rfl, ?_⟩
    cases hv with
    | str z hz ha0 =>
      refine iteF ?_
      have hs : z.length ≤ sizeLine := by rw [sizeLine_eq]; omega
      refine ⟨_, rfl, z, rfl, hs, ?_⟩
      walk_at "rd"
      by_cases c1 : (1 : Int) ≤ (z.length : Int)
      · rw [decide_eq_true c1]
        refine iteT ?_
        walk_at "rd"
        by_cases c2 : (z.length : Int) ≤ 8
        · rw [decide_eq_true c2]
          refine iteF ?_
          walk_at "rd"
          refine for_it (walk_str (z := z)) (fun i σ H' => H' = H ∧ ∃ v, σ = [some (.str z), v] ∧ (z.cps.toList.take i).all okC = true) ?_ (fun _ _ _ _ _ => trivial) ?_ ?_
          · exact ⟨rfl, none, rfl, rfl⟩
          · rintro i x σ H1 H2 hi ⟨rfl, v, rfl, ha⟩ ⟨rfl, c, hc, rfl⟩
            have hc' : z.cps.toList[i]? = some c := by rw [Array.getElem?_toList]; exact hc
            walk_at "rd"
            rw [le_a]
            by_cases d1 : 97 ≤ c
            · rw [decide_eq_true d1]
              refine iteT ?_
              walk_at "rd"
              rw [le_z]
              by_cases d2 : c ≤ 122
              · rw [decide_eq_true d2]
                refine iteF ?_
                refine ⟨rfl, _, rfl, all_take hc' ha ?_⟩
                unfold okC; rw [decide_eq_true d1, decide_eq_true d2]; rfl
              · rw [decide_eq_false d2]
                refine iteT ?_
                have : wordB (.str z) = false := by
                  show wordS z = false
                  unfold wordS; rw [all_no hc' (show okC c = false by unfold okC; rw [decide_eq_false d2, Bool.and_false]), Bool.and_false]
                rw [this] at k
                exact k
            · rw [decide_eq_false d1]
              refine iteF ?_
              walk_at "rd"
              refine iteT ?_
              have : wordB (.str z) = false := by
                show wordS z = false
                unfold wordS; rw [all_no hc' (show okC c = false by unfold okC; rw [decide_eq_false d1, Bool.false_and]), Bool.and_false]
              rw [this] at k
              exact k
          · rintro σ H1 ⟨rfl, v, rfl, ha⟩
            have e : (z.cps.toList.take z.cps.size) = z.cps.toList := List.take_of_length_le (by simp)
            rw [e] at ha
            have : wordB (.str z) = true := by
              show wordS z = true
              unfold wordS; rw [ha, decide_eq_true (show 1 ≤ z.length by omega), decide_eq_true (show z.length ≤ 8 by omega)]; rfl
            rw [this] at k
            exact k
        · rw [decide_eq_false c2]
          refine iteT ?_
          have : wordB (.str z) = false := by
            show wordS z = false
            unfold wordS; rw [decide_eq_false (show ¬ z.length ≤ 8 by omega), Bool.and_false, Bool.false_and]
          rw [this] at k
          exact k
      · rw [decide_eq_false c1]
        refine iteF ?_
        walk_at "rd"
        refine iteT ?_
        have : wordB (.str z) = false := by
          show wordS z = false
          unfold wordS; rw [decide_eq_false (show ¬ 1 ≤ z.length by omega), Bool.false_and, Bool.false_and]
        rw [this] at k
        exact k
    | int i => exact iteT (iteT k)
    | bl b => exact iteT (iteT k)
    | non => exact iteT (iteT k)
    | lst h => exact iteT (iteT k)
    | tup h => exact iteT (iteT k)
/-! ### modes -/
abbrev modesS : List Str := ["join", "inner", "apart", "must", "either", "never", "outside", "alone"]
abbrev modesV : List V := [.str "join", .str "inner", .str "apart", .str "must", .str "either", .str "never", .str "outside", .str "alone"]
def modeB (v : V) : Bool := strB v && inV v modesV
theorem strB_flat {v : V} (h : strB v = true) : flatV v = true := by
  cases v <;> first | rfl | cases h
def spIsMode : Sp := fun vs H Q _ => ∃ v, vs = [v] ∧ Thing H v ∧ Q (.bl (modeB v)) H
theorem ok_Mode_is_mode (T : Txt K mg a d) : FnOk P w K mg base CX0 1 a.Mode_is_mode d.Mode_is_mode ["thing"] spIsMode := by
  refine T.Mode_is_mode.ok sc_Mode_is_mode (fun vs H Q E h => ?_) (fun cdv A outer s H vs Q E hr h => ?_)
  · obtain ⟨v, rfl, _⟩ := h
    rfl
  · obtain ⟨v, rfl, hv, k⟩ := h
    refine ⟨_, (pss_one (ps_ret (pe_and (pe_callB call_isi (by rfl) T.n_isinstance (by decide +kernel) (pa_cons (pv 0) (pa_cons (pe_bltn (v := .ty "str") (u := .type "str") (by rfl) T.n_str (by decide +kernel) rfl) pa_nil))) (pe_one (pe_cmpR op_in_seq (pv 0) (ClX.pe_cval (pe_glob (v := .ref a.Mode) (by rfl) T.g_Mode rfl)) (by rfl)))))), ?_⟩
    dsimp only [cxOf]
    obtain ⟨ty, h1, h2⟩ := hv.isi (K := K)
    refine ⟨_, rfl, _, _, _, _, _, rfl, ClsV.ty _, h1, h2, _, rfl, ?_⟩
    obtain ⟨u, hu⟩ := T.c_Mode_ALL
    unfold modeB at k
    cases hb : strB v with
    | true =>
      rw [hb] at k
      refine iteT ⟨_, rfl, _, _, _, _, rfl, T.r_Mode, hu, _, _, rfl, .inr (T.q_Mode_ALL H), strB_flat hb, rfl, k⟩
    | false =>
      rw [hb] at k
      exact iteF k
theorem mode_thing {H : Hp} {m : Str} (h : m ∈ modesS) : Thing H (.str m) := by
  refine .str m ?_ ?_
  · have : modesS.all (fun m => decide (m.length ≤ 1000)) = true := by decide +kernel
    exact of_decide_eq_true (List.all_eq_true.mp this m h)
  · intro c hc
    have : modesS.all (fun m => m.cps.toList.all fun c => decide (c < 128)) = true := by decide +kernel
    exact of_decide_eq_true (List.all_eq_true.mp (List.all_eq_true.mp this m h) c hc)
theorem mode_isB {m : Str} (h : m ∈ modesS) : modeB (.str m) = true := by
  have : modesS.all (fun m => modeB (.str m)) = true := by decide +kernel
  exact List.all_eq_true.mp this m h
/-! ### Transaction(n), Database() -/
abbrev DB (a : Ad) := DbAt a.Database a.Transaction a.Write
def spTxI (a : Ad) : Sp := fun vs H Q _ => ∃ (x dx : Addr) (n : Int), vs = [.ref x, .int n] ∧ H x = some (.ins a.Transaction dx []) ∧ ∀ q, H q = none → q ≠ x → Q .non (upd (upd (upd H x (.ins a.Transaction dx [("number", .int n)])) q (.lst [.non])) x (.ins a.Transaction dx (txF n q)))
theorem ok_TransactionU_initU (T : Txt K mg a d) : FnOk P w K mg base CX0 1 a.TransactionU_initU d.TransactionU_initU ["self", "number"] (spTxI a) := by
  refine T.TransactionU_initU.ok sc_TransactionU_initU (fun vs H Q E h => ?_) (fun cdv A outer s H vs Q E hr h => ?_)
  · obtain ⟨x, dx, n, rfl, _⟩ := h
    rfl
  · obtain ⟨x, dx, n, rfl, hx, k⟩ := h
    have c1 := T.k_Transaction
    have n1 := T.na_Transaction_number
    have n2 := T.na_Transaction_reasons
    refine ⟨_, (pss_cons (ps_fld (pv 0) (pv 1) rfl)
  (pss_one (ps_fld (pv 0) (pe_lst (pa_cons pe_non pa_nil)) rfl))), ?_⟩
    dsimp only [cxOf]
    walk_at "rd"
    intro q hq
    have hqx : q ≠ x := fun e => by rw [e, upd_same] at hq; cases hq
    rw [upd_ne hqx] at hq
    have h1 : (upd (upd H x (.ins a.Transaction dx [("number", .int n)])) q (.lst [.non])) x = some (.ins a.Transaction dx [("number", .int n)]) := upd_oth (Ne.symm hqx) upd_same
    walk_at "rd"
    exact k q hq hqx
def spDbI (a : Ad) : Sp := fun vs H Q _ => ∃ (x dx : Addr), vs = [.ref x] ∧ H x = some (.ins a.Database dx []) ∧
  ∀ H' L, DB a H' L ⟨[], [none], [], 0, 0⟩ → L.db = x → Kp (fun b => b = x) H H' → (∀ b, Mut L b → b = x ∨ H b = none) → Q .non H'
theorem ok_DatabaseU_initU (T : Txt K mg a d) : FnOk P w K mg base CX0 1 a.DatabaseU_initU d.DatabaseU_initU ["self"] (spDbI a) := by
  refine T.DatabaseU_initU.ok sc_DatabaseU_initU (fun vs H Q E h => ?_) (fun cdv A outer s H vs Q E hr h => ?_)
  · obtain ⟨x, dx, rfl, _⟩ := h
    rfl
  · obtain ⟨x, dx, rfl, hx, k⟩ := h
    have c1 := T.k_Database
    have n1 := T.na_Database_rows
    have n2 := T.na_Database_stack
    have n3 := T.na_Database_entered
    have n4 := T.na_Database_floor
    have n5 := T.na_Database_opened
    refine ⟨_, (pss_cons (ps_fld (pv 0) (pe_lst pa_nil) rfl)
  (pss_cons (ps_fld (pv 0) (pe_lst (pa_cons pe_non pa_nil)) rfl)
  (pss_cons (ps_fld (pv 0) (pe_lst pa_nil) rfl)
  (pss_cons (ps_fld (pv 0) pe_int rfl)
  (pss_one (ps_fld (pv 0) pe_int rfl)))))), ?_⟩
    dsimp only [cxOf]
    walk_at "rd"
    intro r hr0
    have nxr := ne_of_none hx hr0
    walk_at "rd"
    intro s1 hs
    obtain ⟨nsx, hs1⟩ := none_upd hs
    obtain ⟨nsr, hs2⟩ := none_upd hs1
    walk_at "rd"
    intro e1 he
    obtain ⟨nex, he1⟩ := none_upd he
    obtain ⟨nes, he2⟩ := none_upd he1
    obtain ⟨nex, he3⟩ := none_upd he2
    obtain ⟨ner, he4⟩ := none_upd he3
    walk_at "rd"
    refine k _ ⟨x, dx, r, s1, e1, [], [none]⟩ ⟨upd_same, ?_, ?_, ?_, .nil, .cons trivial .nil, Ne.symm nsr, Ne.symm ner, Ne.symm nes, (fun t m => by simp at m), by simp, by simp, by simp⟩ rfl ?_ ?_
    · show (_ : Hp) r = some (.lst [])
      walk_at "hp"
    · show (_ : Hp) s1 = some (.lst [.non])
      walk_at "hp"
    · show (_ : Hp) e1 = some (.lst [])
      walk_at "hp"
    · walk_at "kp"
    · intro b hb
      rcases hb with rfl | rfl | rfl | rfl | ⟨t, m, rfl⟩ | ⟨w, m, rfl⟩
      · exact .inl rfl
      · exact .inr hr0
      · exact .inr hs2
      · exact .inr he4
      · simp at m
      · simp at m
/-! ### the database's methods -/
structure Sm (D : Db) : Prop where
  e : D.entered.length ≤ 100000
  s : D.stack.length ≤ 100000
  r : ∀ x, some x ∈ D.stack → x.rs.length ≤ 100000
  n : D.rows.length ≤ 4000
inductive EK
  | missing (m : Str)
  | present (m : Str)
  | doomed (z : Str)
  | refused
  | noblock
  | waits (z : Str)
  | norecord (z : Str)
  | badword (v : V)
  | badmode (v : V)
def errE (a : Ad) (e : EK) (H : Hp) (E : XK) : Prop := match e with
  | .missing m => errQ a.Missing ef_Missing [.str m] H E
  | .present m => errQ a.Present ef_Present [.str m] H E
  | .doomed z => errQ a.Doomed ef_Doomed [.str z] H E
  | .refused => errQ a.Refused ef_Refused [] H E
  | .noblock => errQ a.NoBlock ef_NoBlock [] H E
  | .waits z => errQ a.Waits ef_Waits [.str z] H E
  | .norecord z => errQ a.NoRecord ef_NoRecord [.str z] H E
  | .badword v => errQ a.BadWord ef_BadWord [v] H E
  | .badmode v => errQ a.BadMode ef_BadMode [v] H E
/-- what a method leaves: the state, and an error or None -/
def outE (a : Ad) (r : Db × Option EK) (H : Hp) (L : Lay) (Q : VK) (E : XK) : Prop := ∀ H' L', DB a H' L' r.1 → Fr H H' L L' → match r.2 with
  | none => Q .non H'
  | some e => errE a e H' E
theorem outE.fr {a : Ad} {r : Db × Option EK} {H H1 : Hp} {L L1 : Lay} {Q : VK} {E : XK} (k : outE a r H L Q E) (f : Fr H H1 L L1) : outE a r H1 L1 Q E := fun H' L' d f' => k H' L' d (f.trans f')
def plainD (D : Db) (z : Str) : Db := { D with entered := z :: D.entered }
theorem outE.putE {a : Ad} {H : Hp} {L : Lay} {D : Db} {z : Str} {Q : VK} {E : XK} (hD : DB a H L D) (k : outE a (plainD D z, none) H L Q E) : Q .non (upd H L.e (.lst (rv V.str D.entered ++ [.str z]))) := by
  have := k _ _ (hD.setE (z :: D.entered)) (Fr.set DbAt.mutE)
  rw [rv_cons] at this
  exact this
def beginD (D : Db) : Db := { D with stack := some ⟨D.opened, [none]⟩ :: D.stack, opened := D.opened + 1, entered := "base" :: D.entered }
def spBegin (a : Ad) : Sp := fun vs H Q E => ∃ L D, vs = [.ref L.db] ∧ DB a H L D ∧ Sm D ∧ outE a (beginD D, none) H L Q E
theorem ts_len {a : Ad} {H : Hp} {L : Lay} {D : Db} (h : DB a H L D) (m : Sm D) : (rv tV L.ts).length < sizeLine := by
  rw [rv_len, h.txs.len, sizeLine_eq]
  have := m.s
  omega
theorem es_len {D : Db} (m : Sm D) : (rv V.str D.entered).length < sizeLine := by
  rw [rv_len, sizeLine_eq]
  have := m.e
  omega
theorem ok_Database_begin (T : Txt K mg a d) : FnOk P w K mg base CX0 3 a.Database_begin d.Database_begin ["self"] (spBegin a) := by
  have G_TransactionU_initU : FnOk P w K mg base CX0 1 a.TransactionU_initU d.TransactionU_initU ["self", "number"] (spTxI a) := ok_TransactionU_initU T
  refine T.Database_begin.ok sc_Database_begin (fun vs H Q E h => ?_) (fun cdv A outer s H vs Q E hr h => ?_)
  · obtain ⟨L, D, rfl, _⟩ := h
    rfl
  · obtain ⟨L, D, rfl, hD, hm, k⟩ := h
    have c1 := T.k_Database
    have n1 := T.na_Database_stack
    have n2 := T.na_Database_entered
    have n3 := T.na_Database_opened
    have h1 := hD.db
    have h2 := hD.s
    have h3 := hD.e
    have l1 := ts_len hD hm
    have l2 := es_len hm
    refine ⟨_, (pss_cons (ps_expr (pe_bm PySem.F.plainAttrs_list PySem.F.slot_list_append PySem.F.type_list_append mt_append (pe_fld (pv 0) rfl) (pa_cons (pe_make T.mk_Transaction G_TransactionU_initU (hr.mono (by decide)) (by rfl) T.g_Transaction T.b_TransactionU_initU .nil pass0 (pa_cons (pe_fld (pv 0) rfl) pa_nil)) pa_nil)))
  (pss_cons (ps_fldaug (pv 0) pe_int in_add)
  (pss_one (ps_expr (pe_bm PySem.F.plainAttrs_list PySem.F.slot_list_append PySem.F.type_list_append mt_append (pe_fld (pv 0) rfl) (pa_cons pe_str pa_nil)))))), ?_⟩
    dsimp only [cxOf]
    walk_at "rd"
    intro x dx hx hdx nxd
    refine ⟨x, dx, D.opened, rfl, upd_same, fun q hq nq => ⟨rfl, ?_⟩⟩
    obtain ⟨_, hq1⟩ := none_upd hq
    obtain ⟨nqd, hq2⟩ := none_upd hq1
    generalize hH1 : upd (upd (upd (upd (upd H dx (HO.own x)) x (HO.ins a.Transaction dx [])) x (HO.ins a.Transaction dx [("number", V.int D.opened)])) q (HO.lst [V.non])) x (HO.ins a.Transaction dx (txF D.opened q)) = H1
    have k1 : Same H H1 := fun b u e => by
      rw [← hH1]
      exact upd_oth (ne_of_none e hx) (upd_oth (ne_of_none e hq2) (upd_oth (ne_of_none e hx) (upd_oth (ne_of_none e hx) (upd_oth (ne_of_none e hdx) e))))
    have hx1 : H1 x = some (.ins a.Transaction dx (txF D.opened q)) := by rw [← hH1]; exact upd_same
    have hq3 : H1 q = some (.lst (rv oV [none])) := by rw [← hH1]; exact upd_oth nq upd_same
    have hD1 : DB a H1 L D := hD.keep fun b u _ e => k1 b u e
    have hD2 := hD1.pushT (t := ⟨x, dx, q⟩) hx1 hq3 (by simp) (hD.fresh hq2 )
    have f2 : Fr H _ L _ := Fr.pushT (t := ⟨x, dx, q⟩) (o := .lst (rv tV (some ⟨x, dx, q⟩ :: L.ts))) (.of_same k1) hq2
    rw [← show rv tV L.ts ++ [V.ref x] = rv tV (some ⟨x, dx, q⟩ :: L.ts) from (rv_cons (f := tV) (x := some ⟨x, dx, q⟩)).symm] at hD2 f2
    have g1 := hD1.s
    have g2 : upd H1 L.s (HO.lst (rv tV L.ts ++ [V.ref x])) L.db = some (.ins a.Database L.dx (dbF L.r L.s L.e D.floor D.opened)) := hD2.db
    have g3 : upd H1 L.s (HO.lst (rv tV L.ts ++ [V.ref x])) L.e = some (.lst (rv V.str D.entered)) := hD2.e
    have g4 : L.e ≠ L.db := Ne.symm (ins_ne h1 h3)
    walk_at "rd"
    have hD4 := (hD2.setD D.floor (D.opened + 1)).setE ("base" :: D.entered)
    have f4 := (f2.trans (Fr.set (o := .ins a.Database L.dx (dbF L.r L.s L.e D.floor (D.opened + 1))) DbAt.mutD)).trans (Fr.set (o := .lst (rv V.str ("base" :: D.entered))) DbAt.mutE)
    rw [rv_cons] at hD4 f4
    exact k _ _ hD4 f4
/-! ### enter -/
def aloneD (D : Db) (m : Str) : Db × Option EK :=
  if decide (V.str m = V.str "must") = true then (D, some (.missing m)) else if inV (.str m) [.str "either", .str "never", .str "outside"] = true then (plainD D "plain", none) else (beginD D, none)
def spAlone (a : Ad) : Sp := fun vs H Q E => ∃ L D m, vs = [.ref L.db, .str m] ∧ DB a H L D ∧ Sm D ∧ outE a (aloneD D m) H L Q E
theorem ok_Database_enter_alone (T : Txt K mg a d) : FnOk P w K mg base (L2.CX P w) 4 a.Database_enter_alone d.Database_enter_alone ["self", "mode"] (spAlone a) := by
  have G_Database_begin : FnOk P w K mg base CX0 3 a.Database_begin d.Database_begin ["self"] (spBegin a) := ok_Database_begin T
  refine T.Database_enter_alone.okX sc_Database_enter_alone (fun vs H Q E h => ?_) (fun cdv A outer s H vs Q E hr h => ?_)
  · obtain ⟨L, D, m, rfl, _⟩ := h
    rfl
  · obtain ⟨L, D, m, rfl, hD, hm, k⟩ := h
    have c1 := T.k_Database
    have n2 := T.na_Database_entered
    have h1 := hD.db
    have h3 := hD.e
    have l2 := es_len hm
    obtain ⟨u1, k1⟩ := T.c_Mode_MUST
    obtain ⟨u2, k2⟩ := T.c_Mode_EITHER
    obtain ⟨u3, k3⟩ := T.c_Mode_NEVER
    obtain ⟨u4, k4⟩ := T.c_Mode_OUTSIDE
    have r1 := T.r_Mode
    refine ⟨_, (pss_cons (ps_if (pt_cmpR op_eq (pv 1) (ClX.pe_cval (pe_glob (v := .ref a.Mode) (by rfl) T.g_Mode rfl)) (nomark _)) (pss_one (ps_raise rfl (takes_of rfl rfl rfl rfl) (pmk_err T.e_Missing T.g_Missing T.n_super hr (pa_cons (pv 1) pa_nil)))) pss_nil)
  (pss_one (ps_if (pt_cmpR op_in_seq (pv 1) (pe_tup (pa_cons (ClX.pe_cval (pe_glob (v := .ref a.Mode) (by rfl) T.g_Mode rfl)) (pa_cons (ClX.pe_cval (pe_glob (v := .ref a.Mode) (by rfl) T.g_Mode rfl)) (pa_cons (ClX.pe_cval (pe_glob (v := .ref a.Mode) (by rfl) T.g_Mode rfl)) pa_nil)))) (by rfl)) (pss_one (ps_expr (pe_bm PySem.F.plainAttrs_list PySem.F.slot_list_append PySem.F.type_list_append mt_append (pe_fld (pv 0) rfl) (pa_cons pe_str pa_nil)))) (pss_one (ps_expr (pe_meth0 (pv 0) T.k_Database T.m_Database_begin G_Database_begin (hr.mono (by decide)) T.b_Database_begin .nil pass0)))))), ?_⟩
    dsimp only [cxOf]
    walk_at "rd"
    unfold aloneD at k
    refine ite2 (fun c0 => ?_) (fun c0 => ?_)
    · rw [if_pos c0] at k
      walk_at "rd"
      exact k H L hD Fr.refl
    · rw [if_neg c0] at k
      walk_at "rd"
      intro p hp
      have hD1 : DB a _ L D := hD.new (o := .tup [.str "either", .str "never", .str "outside"]) hp
      have f1 : Fr H _ L L := Fr.refl.new (o := .tup [.str "either", .str "never", .str "outside"]) hp
      have h1 := hD1.db
      have h3 := hD1.e
      have hp1 := upd_same (H := H) (a := p) (o := .tup [.str "either", .str "never", .str "outside"])
      generalize upd H p (.tup [.str "either", .str "never", .str "outside"]) = H1 at hD1 f1 h1 h3 hp1 ⊢
      walk_at "rd"
      refine ite2 (fun c1 => ?_) (fun c1 => ?_)
      · rw [if_pos (show inV (V.str m) [V.str "either", V.str "never", V.str "outside"] = true from c1)] at k
        walk_at "rd"
        exact (k.fr f1).putE hD1
      · rw [if_neg (show ¬ inV (V.str m) [V.str "either", V.str "never", V.str "outside"] = true from c1)] at k
        walk_at "rd"
        exact ⟨L, D, rfl, hD1, hm, k.fr f1⟩
def lvlD (D : Db) (m : Str) (n : Int) (y : Option Str) (rs : List (Option Str)) (st : List (Option Tx)) : Db × Option EK :=
  if inV (.str m) [.str "never", .str "alone"] = true then (D, some (.present m)) else
  if decide (V.str m = V.str "inner") = true then (match y with
    | some z => (D, some (.doomed z))
    | none => (plainD { D with stack := some ⟨n, none :: y :: rs⟩ :: st } "level", none)) else
  if decide (V.str m = V.str "apart") = true then (beginD D, none) else
  if decide (V.str m = V.str "outside") = true then (plainD { D with stack := none :: D.stack } "outside", none) else (plainD D "joined", none)
def spInside (a : Ad) : Sp := fun vs H Q E => ∃ L D m t ts n y rs st, vs = [.ref L.db, .str m, .ref t.t] ∧ DB a H L D ∧ Sm D ∧ L.ts = some t :: ts ∧ D.stack = some ⟨n, y :: rs⟩ :: st ∧ outE a (lvlD D m n y rs st) H L Q E
theorem ok_Database_enter_inside (T : Txt K mg a d) : FnOk P w K mg base (L2.CX P w) 4 a.Database_enter_inside d.Database_enter_inside ["self", "mode", "present"] (spInside a) := by
  have G_Database_begin : FnOk P w K mg base CX0 3 a.Database_begin d.Database_begin ["self"] (spBegin a) := ok_Database_begin T
  refine T.Database_enter_inside.okX sc_Database_enter_inside (fun vs H Q E h => ?_) (fun cdv A outer s H vs Q E hr h => ?_)
  · obtain ⟨L, D, m, t, ts, n, y, rs, st, rfl, _⟩ := h
    rfl
  · obtain ⟨L, D, m, t, ts, n, y, rs, st, rfl, hD0, hm, et, es, k⟩ := h
    have c1 := T.k_Database
    have c2 := T.k_Transaction
    have n1 := T.na_Database_stack
    have n2 := T.na_Database_entered
    have n3 := T.na_Transaction_reasons
    obtain ⟨u1, k1⟩ := T.c_Mode_NEVER
    obtain ⟨u2, k2⟩ := T.c_Mode_ALONE
    obtain ⟨u3, k3⟩ := T.c_Mode_INNER
    obtain ⟨u4, k4⟩ := T.c_Mode_APART
    obtain ⟨u5, k5⟩ := T.c_Mode_OUTSIDE
    have r1 := T.r_Mode
    refine ⟨_, (pss_cons (ps_if (pt_cmpR op_in_seq (pv 1) (pe_tup (pa_cons (ClX.pe_cval (pe_glob (v := .ref a.Mode) (by rfl) T.g_Mode rfl)) (pa_cons (ClX.pe_cval (pe_glob (v := .ref a.Mode) (by rfl) T.g_Mode rfl)) pa_nil))) (by rfl)) (pss_one (ps_raise rfl (takes_of rfl rfl rfl rfl) (pmk_err T.e_Present T.g_Present T.n_super hr (pa_cons (pv 1) pa_nil)))) pss_nil)
  (pss_one (ps_if (pt_cmpR op_eq (pv 1) (ClX.pe_cval (pe_glob (v := .ref a.Mode) (by rfl) T.g_Mode rfl)) (nomark _)) (pss_cons (ps_if (pt_cmpR op_notN (pe_ix ix_list (pe_fld (pv 2) rfl) (pe_un un_neg pe_int) (fun _ _ => rfl)) pe_non (nomark _)) (pss_one (ps_raise rfl (takes_of rfl rfl rfl rfl) (pmk_err T.e_Doomed T.g_Doomed T.n_super hr (pa_cons (pe_ix ix_list (pe_fld (pv 2) rfl) (pe_un un_neg pe_int) (fun _ _ => rfl)) pa_nil)))) pss_nil)
  (pss_cons (ps_expr (pe_bm PySem.F.plainAttrs_list PySem.F.slot_list_append PySem.F.type_list_append mt_append (pe_fld (pv 2) rfl) (pa_cons pe_non pa_nil)))
  (pss_one (ps_expr (pe_bm PySem.F.plainAttrs_list PySem.F.slot_list_append PySem.F.type_list_append mt_append (pe_fld (pv 0) rfl) (pa_cons pe_str pa_nil)))))) (pss_one (ps_if (pt_cmpR op_eq (pv 1) (ClX.pe_cval (pe_glob (v := .ref a.Mode) (by rfl) T.g_Mode rfl)) (nomark _)) (pss_one (ps_expr (pe_meth0 (pv 0) T.k_Database T.m_Database_begin G_Database_begin (hr.mono (by decide)) T.b_Database_begin .nil pass0))) (pss_one (ps_if (pt_cmpR op_eq (pv 1) (ClX.pe_cval (pe_glob (v := .ref a.Mode) (by rfl) T.g_Mode rfl)) (nomark _)) (pss_cons (ps_expr (pe_bm PySem.F.plainAttrs_list PySem.F.slot_list_append PySem.F.type_list_append mt_append (pe_fld (pv 0) rfl) (pa_cons pe_non pa_nil)))
  (pss_one (ps_expr (pe_bm PySem.F.plainAttrs_list PySem.F.slot_list_append PySem.F.type_list_append mt_append (pe_fld (pv 0) rfl) (pa_cons pe_str pa_nil))))) (pss_one (ps_expr (pe_bm PySem.F.plainAttrs_list PySem.F.slot_list_append PySem.F.type_list_append mt_append (pe_fld (pv 0) rfl) (pa_cons pe_str pa_nil))))))))))), ?_⟩
    dsimp only [cxOf]
    walk_at "rd"
    intro p hp
    have hD : DB a _ L D := hD0.new (o := .tup [.str "never", .str "alone"]) hp
    have f1 : Fr H _ L L := Fr.refl.new (o := .tup [.str "never", .str "alone"]) hp
    have hp1 := upd_same (H := H) (a := p) (o := .tup [.str "never", .str "alone"])
    generalize upd H p (.tup [.str "never", .str "alone"]) = H1 at hD f1 hp1 ⊢
    replace k := k.fr f1
    have mt : some t ∈ L.ts := by rw [et]; exact List.mem_cons_self
    have h1 := hD.db
    have h2 := hD.s
    have h3 := hD.e
    have hx := hD.txs
    rw [et, es] at hx
    obtain ⟨h4, h5, h6⟩ : TxAt a.Transaction H1 (some t) (some ⟨n, y :: rs⟩) := by cases hx; assumption
    have e1 := rv_at (f := oV) (x := y) (l := rs)
    have l2 := es_len hm
    have l1 := ts_len hD hm
    unfold lvlD at k
    walk_at "rd"
    refine ite2 (fun b1 => ?_) (fun b1 => ?_)
    · rw [if_pos (show inV (V.str m) [V.str "never", V.str "alone"] = true from b1)] at k
      walk_at "rd"
      exact k H1 L hD Fr.refl
    rw [if_neg (show ¬ inV (V.str m) [V.str "never", V.str "alone"] = true from b1)] at k
    walk_at "rd"
    refine ite2 (fun b2 => ?_) (fun b2 => ?_)
    · rw [if_pos b2] at k
      have hd : ∀ z, H1 t.q ≠ some (.ins a.Database L.dx z) := fun z e => by rw [h5] at e; cases e
      walk_at "rd"
      cases y with
      | some z =>
        refine iteT ?_
        walk_at "rd"
        exact k H1 L hD Fr.refl
      | none =>
        refine iteF ?_
        have hD2 := hD.setQ (rs := none :: none :: rs) et es (by simp)
        have f2 := Fr.set (H := H1) (o := .lst (rv oV (none :: none :: rs))) (DbAt.mutQ mt)
        rw [show rv oV (none :: none :: rs) = rv oV (none :: rs) ++ [V.non] from rv_cons] at hD2 f2
        have g1 := hD2.db
        have g2 := hD2.e
        dsimp only at g1 g2
        have l3 : (rv oV (none :: rs)).length < sizeLine := by
          rw [rv_len, sizeLine_eq]
          have := hm.r ⟨n, none :: rs⟩ (by rw [es]; exact List.mem_cons_self)
          dsimp only at this
          omega
        walk_at "rd"
        have z := outE.putE hD2 (k.fr f2)
        exact z
    rw [if_neg b2] at k
    walk_at "rd"
    refine ite2 (fun b3 => ?_) (fun b3 => ?_)
    · rw [if_pos b3] at k
      walk_at "rd"
      exact ⟨L, D, rfl, hD, hm, k⟩
    rw [if_neg b3] at k
    walk_at "rd"
    refine ite2 (fun b4 => ?_) (fun b4 => ?_)
    · rw [if_pos b4] at k
      have hD2 := hD.pushN
      have f2 := Fr.pushN (H := H1) (L := L) (o := .lst (rv tV (none :: L.ts)))
      rw [show rv tV (none :: L.ts) = rv tV L.ts ++ [V.non] from rv_cons] at hD2 f2
      have g1 := hD2.db
      have g2 := hD2.e
      dsimp only at g1 g2
      walk_at "rd"
      have z := outE.putE hD2 (k.fr f2)
      exact z
    rw [if_neg b4] at k
    walk_at "rd"
    exact k.putE hD
def enterD (D : Db) (m : Str) : Db × Option EK := match D.stack with
  | none :: _ => aloneD D m
  | some ⟨n, y :: rs⟩ :: st => lvlD D m n y rs st
  | _ => (D, none)
def enterV (D : Db) (v : V) : Db × Option EK := if modeB v = true then (match v with
  | .str m => enterD D m
  | _ => (D, none)) else (D, some (.badmode v))
def spEnter (a : Ad) : Sp := fun vs H Q E => ∃ L D v, vs = [.ref L.db, v] ∧ Thing H v ∧ DB a H L D ∧ Sm D ∧ outE a (enterV D v) H L Q E
theorem ok_Database_enter (T : Txt K mg a d) : FnOk P w K mg base (L2.CX P w) 5 a.Database_enter d.Database_enter ["self", "mode"] (spEnter a) := by
  have G_Mode_is_mode : FnOk P w K mg base CX0 1 a.Mode_is_mode d.Mode_is_mode ["thing"] spIsMode := ok_Mode_is_mode T
  have G_Database_enter_alone : FnOk P w K mg base (L2.CX P w) 4 a.Database_enter_alone d.Database_enter_alone ["self", "mode"] (spAlone a) := ok_Database_enter_alone T
  have G_Database_enter_inside : FnOk P w K mg base (L2.CX P w) 4 a.Database_enter_inside d.Database_enter_inside ["self", "mode", "present"] (spInside a) := ok_Database_enter_inside T
  refine T.Database_enter.okX sc_Database_enter (fun vs H Q E h => ?_) (fun cdv A outer s H vs Q E hr h => ?_)
  · obtain ⟨L, D, v, rfl, _⟩ := h
    rfl
  · obtain ⟨L, D, v, rfl, tm, hD, hm, k⟩ := h
    have c1 := T.k_Database
    have n1 := T.na_Database_stack
    have h1 := hD.db
    have h2 := hD.s
    refine ⟨_, (pss_cons (ps_if (pt_not (pt_val (pe_smeth (pe_glob (v := .ref a.Mode) (by rfl) T.g_Mode rfl) T.r_Mode T.s_Mode_is_mode G_Mode_is_mode (hr.mono (by decide)) T.Mode_is_mode.kp T.b_Mode_is_mode .nil pass0 (pa_cons (pv 1) pa_nil)))) (pss_one (ps_raise rfl (takes_of rfl rfl rfl rfl) (pmk_err T.e_BadMode T.g_BadMode T.n_super hr (pa_cons (pv 1) pa_nil)))) pss_nil)
  (pss_one (ps_if (pt_cmpR op_isN (pe_ix ix_list (pe_fld (pv 0) rfl) (pe_un un_neg pe_int) (fun _ _ => rfl)) pe_non (nomark _)) (pss_one (ps_expr (pe_meth (pv 0) T.k_Database T.m_Database_enter_alone G_Database_enter_alone (hr.mono (by decide)) T.b_Database_enter_alone .nil (passes_call (takes_of rfl rfl rfl rfl) (fun _ _ _ _ h => h)) (pa_cons (pv 1) pa_nil)))) (pss_one (ps_expr (pe_meth (pv 0) T.k_Database T.m_Database_enter_inside G_Database_enter_inside (hr.mono (by decide)) T.b_Database_enter_inside .nil (passes_call (takes_of rfl rfl rfl rfl) (fun _ _ _ _ h => h)) (pa_cons (pv 1) (pa_cons (pe_ix ix_list (pe_fld (pv 0) rfl) (pe_un un_neg pe_int) (fun _ _ => rfl)) pa_nil)))))))), ?_⟩
    dsimp only [cxOf]
    walk_at "rd"
    unfold enterV at k
    cases bm : modeB v with
    | false =>
      rw [bm] at k
      refine iteT ?_
      walk_at "rd"
      exact k H L hD Fr.refl
    | true =>
      rw [bm] at k
      refine iteF ?_
      obtain ⟨m, rfl⟩ : ∃ m, v = .str m := by
        cases v <;> first | exact ⟨_, rfl⟩ | cases bm
      dsimp only [if_true] at k
      rw [if_pos rfl] at k
      unfold enterD at k
      rcases hD.top with ⟨ts, st, et, es⟩ | ⟨t, ts, x, st, y, rs, et, es, ex, h4, h5⟩
      · rw [es] at k
        rw [et] at h2
        have e1 := rv_at (f := tV) (x := none) (l := ts)
        walk_at "rd"
        exact ⟨L, D, m, rfl, hD, hm, k⟩
      · obtain ⟨n, rs0⟩ := x
        dsimp only at ex
        subst ex
        rw [es] at k
        rw [et] at h2
        have e1 := rv_at (f := tV) (x := some t) (l := ts)
        walk_at "rd"
        exact ⟨L, D, m, t, ts, n, y, rs, st, rfl, hD, hm, et, es, k⟩
theorem enterV_mode {D : Db} {m : Str} (h : m ∈ modesS) : enterV D (.str m) = enterD D m := by
  unfold enterV
  rw [if_pos (mode_isB h)]
/-! ### doom -/
theorem bd_doom (T : Txt K mg a d) : Binds K d.Database_doom ["self", "first"] [] := by
  obtain ⟨ds, h1, h2⟩ := T.Database_doom.binds1 (ps := ["self", "first"]) 2 1 (by simp) rfl fun T kV doc pm an cdv ct us its hu hi => match us, hu, its, hi with | [_, _], _, [_], _ => ⟨_, rfl, rfl⟩
  cases h1
  exact h2
def doomD (D : Db) (z : Str) : Db := match D.stack with
  | some ⟨n, none :: rs⟩ :: st => { D with stack := some ⟨n, some z :: rs⟩ :: st }
  | _ => D
def doomV (D : Db) (v : V) : Db × Option EK := if wordB v = true then (match v with
  | .str z => (doomD D z, none)
  | _ => (D, none)) else (D, some (.badword v))
theorem IsWord.asc {w : Str} (h : IsWord w) : asc w := fun c hc => by
  have := h.al c hc
  omega
theorem word_thing {H : Hp} {w : Str} (h : IsWord w) : Thing H (.str w) := .str w (by rw [← len_toList]; have := h.hi; omega) h.asc
theorem doomV_word {D : Db} {z : Str} (h : IsWord z) : doomV D (.str z) = (doomD D z, none) := by
  unfold doomV
  rw [if_pos (show wordB (.str z) = true from h.ok)]
def spDoom (a : Ad) : Sp := fun vs H Q E => ∃ L D v, vs = [.ref L.db, v] ∧ Thing H v ∧ DB a H L D ∧ outE a (doomV D v) H L Q E
theorem ok_Database_doom (T : Txt K mg a d) : FnOk P w K mg base (L2.CX P w) 2 a.Database_doom d.Database_doom ["self", "first"] (spDoom a) := by
  have G_is_word : FnOk P w K mg base CX0 1 a.is_word d.is_word ["thing"] spIsWord := ok_is_word T
  refine T.Database_doom.ok sc_Database_doom (fun vs H Q E h => ?_) (fun cdv A outer s H vs Q E hr h => ?_)
  · obtain ⟨L, D, v, rfl, _⟩ := h
    rfl
  · obtain ⟨L, D, v, rfl, tz, hD, k⟩ := h
    have c1 := T.k_Database
    have c2 := T.k_Transaction
    have n1 := T.na_Database_stack
    have n3 := T.na_Transaction_reasons
    have h1 := hD.db
    have h2 := hD.s
    refine ⟨_, (pss_cons (ps_if (pt_not (pt_val (pe_call G_is_word (hr.mono (by decide)) (by rfl) T.g_is_word T.is_word.kp T.b_is_word .nil pass0 (pa_cons (pv 1) pa_nil)))) (pss_one (ps_raise rfl (takes_of rfl rfl rfl rfl) (pmk_err T.e_BadWord T.g_BadWord T.n_super hr (pa_cons (pv 1) pa_nil)))) pss_nil)
  (pss_cons (ps_set (i := 2) sc_Database_doom.nd rfl (Or.inl rfl) (pe_ix ix_list (pe_fld (pv 0) rfl) (pe_un un_neg pe_int) (fun _ _ => rfl)))
  (pss_one (ps_if (PW.pt (pw_and (pt_cmpR op_notN (pv 2) pe_non (nomark _)) (pw_and1 (pt_cmpR op_isN (pe_ix ix_list (pe_fld (pv 2) rfl) (pe_un un_neg pe_int) (fun _ _ => rfl)) pe_non (nomark _))))) (pss_one (ps_asg (pv 1) (pg_sub (pe_fld (pv 2) rfl) (pe_un un_neg pe_int) set_list))) pss_nil)))), ?_⟩
    dsimp only [cxOf]
    walk_at "rd"
    unfold doomV at k
    cases bz : wordB v with
    | false =>
      rw [bz] at k
      refine iteT ?_
      walk_at "rd"
      exact k H L hD Fr.refl
    | true =>
      rw [bz, if_pos rfl] at k
      refine iteF ?_
      obtain ⟨z, rfl⟩ : ∃ z, v = .str z := by
        cases v <;> first | exact ⟨_, rfl⟩ | cases bz
      unfold doomD at k
      dsimp only at k
      rcases hD.top with ⟨ts, st, et, es⟩ | ⟨t, ts, x, st, y, rs, et, es, ex, h4, h5⟩
      · rw [es] at k
        rw [et] at h2
        have e1 := rv_at (f := tV) (x := none) (l := ts)
        walk_at "rd"
        exact k H L hD Fr.refl
      · obtain ⟨n, rs0⟩ := x
        dsimp only at ex
        subst ex
        rw [es] at k
        rw [et] at h2
        have e1 := rv_at (f := tV) (x := some t) (l := ts)
        have e2 := rv_at (f := oV) (x := y) (l := rs)
        have e3 := rv_ix (f := oV) (x := y) (l := rs)
        have mt : some t ∈ L.ts := by rw [et]; exact List.mem_cons_self
        cases y with
        | some y =>
          walk_at "rd"
          exact k H L hD Fr.refl
        | none =>
          walk_at "rd"
          have hD2 := hD.setQ (rs := some z :: rs) et es (by simp)
          have f2 := Fr.set (H := H) (o := .lst (rv oV (some z :: rs))) (DbAt.mutQ mt)
          have z2 := k _ _ hD2 f2
          rw [← rv_set (x := none)] at z2
          exact z2
/-! ### the end of a level, of a transaction -/
def endE (err y : Option Str) (c : Bool) : Option EK := match err, y, c with
  | none, some z, _ => some (.doomed z)
  | none, none, false => some .refused
  | _, _, _ => none
def endLRow (n top : Int) (ok : Bool) (x : Row) : Row := if x.fate = "open" ∧ x.holder = n ∧ x.level = top then (if ok = true then { x with level := top - 1 } else { x with fate := "undone" }) else x
def endTRow (n : Int) (fate : Str) (x : Row) : Row := if x.fate = "open" ∧ x.holder = n then { x with fate := fate } else x
theorem cur_at {α : Type} {f : α → α} {l : List α} {i : Nat} (hi : i ≤ l.length) : ((l.take i).map f ++ l.drop i)[i]? = l[i]? := by
  rw [List.getElem?_append_right (by rw [List.length_map, List.length_take]; omega), List.length_map, List.length_take, Nat.min_eq_left hi, Nat.sub_self, List.getElem?_drop]; rfl
theorem cur_step {α : Type} {f : α → α} {l : List α} {i : Nat} {x : α} (h : l[i]? = some x) : ((l.take i).map f ++ l.drop i).set i (f x) = (l.take (i + 1)).map f ++ l.drop (i + 1) := by
  have hi : i < l.length := (List.getElem?_eq_some_iff.mp h).1
  have e1 : ((l.take i).map f).length = i := by rw [List.length_map, List.length_take]; omega
  rw [List.set_append_right _ _ (by omega), e1, Nat.sub_self, List.take_add_one, h, List.map_append]
  have e2 : l.drop i = x :: l.drop (i + 1) := by
    rw [List.drop_eq_getElem_cons hi]
    congr 1
    exact (List.getElem?_eq_some_iff.mp h).2
  rw [e2]
  simp
theorem cur_same {α : Type} {f : α → α} {l : List α} {i : Nat} {x : α} (h : l[i]? = some x) (e : f x = x) : (l.take i).map f ++ l.drop i = (l.take (i + 1)).map f ++ l.drop (i + 1) := by
  rw [← cur_step h, e]
  have hi : i < l.length := (List.getElem?_eq_some_iff.mp h).1
  have := cur_at (f := f) (Nat.le_of_lt hi)
  rw [h] at this
  obtain ⟨h1, h2⟩ := List.getElem?_eq_some_iff.mp this
  rw [← h2, List.set_getElem_self]
theorem map_ref {ws : List (Addr × Addr)} {i : Nat} {v : V} (h : (ws.map fun w => V.ref w.1)[i]? = some v) : ∃ w, ws[i]? = some w ∧ v = .ref w.1 := by
  rw [List.getElem?_map] at h
  cases e : ws[i]? with
  | none => rw [e] at h; cases h
  | some w =>
    rw [e] at h
    cases h
    exact ⟨w, rfl, rfl⟩
def endLD (D : Db) (err : Option Str) : Db × Option EK := match D.stack with
  | some ⟨n, y :: rs⟩ :: st => ({ D with stack := some ⟨n, rs⟩ :: st, rows := D.rows.map (endLRow n rs.length (err.isNone && y.isNone)) }, endE err y true)
  | _ => (D, none)
def spEndL (a : Ad) : Sp := fun vs H Q E => ∃ L D err n y z rs st, vs = [.ref L.db, oV err] ∧ DB a H L D ∧ Sm D ∧ D.stack = some ⟨n, y :: z :: rs⟩ :: st ∧ outE a (endLD D err) H L Q E
theorem ok_Database_end_level (T : Txt K mg a d) : FnOk P w K mg base (L2.CX P w) 1 a.Database_end_level d.Database_end_level ["self", "error"] (spEndL a) := by
  refine T.Database_end_level.okX sc_Database_end_level (fun vs H Q E h => ?_) (fun cdv A outer s H vs Q E hr h => ?_)
  · obtain ⟨L, D, err, n, y, z, rs, st, rfl, _⟩ := h
    rfl
  · obtain ⟨L, D, err, n, y, z, rs, st, rfl, hD, hm, es, k⟩ := h
    have c1 := T.k_Database
    have c2 := T.k_Transaction
    have c3 := T.k_Write
    have n1 := T.na_Database_stack
    have n2 := T.na_Database_rows
    have n3 := T.na_Transaction_reasons
    have n4 := T.na_Transaction_number
    have n5 := T.na_Write_fate
    have n6 := T.na_Write_holder
    have n7 := T.na_Write_level
    have h1 := hD.db
    have h2 := hD.s
    unfold endLD at k
    rw [es] at k
    dsimp only at k
    rcases hD.top with ⟨ts, st', et, es'⟩ | ⟨t, ts, x, st', y', rs', et, es', ex, h4, h5⟩
    · rw [es] at es'
      cases es'
    · rw [es] at es'
      cases es'
      cases ex
      rw [et] at h2
      have e1 := rv_at (f := tV) (x := some t) (l := ts)
      have e2 := rv_pop (f := oV) (x := y) (l := z :: rs)
      have mt : some t ∈ L.ts := by rw [et]; exact List.mem_cons_self
      have hD2 := hD.setQ (rs := z :: rs) et es (by simp)
      have f2 := Fr.set (H := H) (o := .lst (rv oV (z :: rs))) (DbAt.mutQ mt)
      obtain ⟨g3, g4, _⟩ : TxAt a.Transaction _ (some t) (some ⟨n, z :: rs⟩) := by
        have hx := hD2.txs
        rw [et] at hx
        cases hx
        assumption
      have g1 := hD2.db
      dsimp only at g1 g3 g4
      rw [← rv_drop (f := oV) (x := y) (l := z :: rs)] at hD2 f2 g1 g3 g4
      replace k := k.fr f2
      refine ⟨_, (pss_cons (ps_set (i := 2) sc_Database_end_level.nd rfl (Or.inl rfl) (pe_ix ix_list (pe_fld (pv 0) rfl) (pe_un un_neg pe_int) (fun _ _ => rfl)))
  (pss_cons (ps_set (i := 3) sc_Database_end_level.nd rfl (Or.inl rfl) (pe_bm0 PySem.F.plainAttrs_list PySem.F.slot_list_pop PySem.F.type_list_pop mt_pop (pe_fld (pv 2) rfl)))
  (pss_cons (ps_set (i := 4) sc_Database_end_level.nd rfl (Or.inl rfl) (pe_callB call_len_seq (by rfl) T.n_len PySem.boot_len (pa_cons (pe_fld (pv 2) rfl) pa_nil)))
  (pss_cons (ps_for (passes_of rfl) rfl (pi_list (pe_fld (pv 0) rfl)) (pg_name (i := 5) sc_Database_end_level.nd rfl (Or.inl rfl))
  (pss_one (ps_if (PW.pt (pw_and (pt_cmpR op_eq (pe_fld (pv 5) rfl) pe_str (nomark _)) (pw_and (pt_cmpR op_eq (pe_fld (pv 5) rfl) (pe_fld (pv 2) rfl) (nomark _)) (pw_and1 (pt_cmpR op_eq (pe_fld (pv 5) rfl) (pv 4) (nomark _)))))) (pss_one (ps_if (PW.pt (pw_and (pt_cmpR op_isN (pv 1) pe_non (nomark _)) (pw_and1 (pt_cmpR op_isN (pv 3) pe_non (nomark _))))) (pss_one (ps_fld (pv 5) (pe_op op_sub (pv 4) pe_int) rfl)) (pss_one (ps_fld (pv 5) pe_str rfl)))) pss_nil)))
  (pss_one (ps_if (PW.pt (pw_and (pt_cmpR op_isN (pv 1) pe_non (nomark _)) (pw_and1 (pt_cmpR op_notN (pv 3) pe_non (nomark _))))) (pss_one (ps_raise rfl (takes_of rfl rfl rfl rfl) (pmk_err T.e_Doomed T.g_Doomed T.n_super hr (pa_cons (pv 3) pa_nil)))) pss_nil)))))), ?_⟩
      dsimp only [cxOf]
      walk_at "rd"
      generalize upd H t.q (.lst (rv oV (y :: z :: rs)).dropLast) = H1 at hD2 f2 g1 g3 g4 k ⊢
      have ltop : (((rv oV (y :: z :: rs)).dropLast.length : Nat) : Int) = ((z :: rs).length : Int) := by rw [rv_drop, rv_len]
      rw [ltop]
      refine ⟨⟨_, SqL.of hD2.r⟩, ?_⟩
      refine for_list (xs := L.ws.map fun w => V.ref w.1) (fun i σ H' => ∃ v5, DB a H' L { D with stack := some ⟨n, z :: rs⟩ :: st, rows := (D.rows.take i).map (endLRow n ((z :: rs).length : Int) (err.isNone && y.isNone)) ++ D.rows.drop i } ∧ Fr H1 H' L L ∧ σ = [some (.ref L.db), some (oV err), some (.ref t.t), some (oV y), some (.int ((z :: rs).length : Int)), v5]) ?_ ?_ ?_ ?_
      · exact ⟨none, hD2, Fr.refl, rfl⟩
      · rintro i σ H' _ ⟨v5, hI, _, rfl⟩
        exact SqL.of hI.r
      · rintro i v σ H' hv ⟨v5, hI, fI, rfl⟩
        obtain ⟨w, hw, rfl⟩ := map_ref hv
        have hlw : L.ws.length = D.rows.length := hD.rows.len
        have hi : i < D.rows.length := by rw [← hlw]; exact (List.getElem?_eq_some_iff.mp hw).1
        obtain ⟨x, hx, hxw⟩ := hI.rows.get hw
        dsimp only at hx
        rw [cur_at (Nat.le_of_lt hi)] at hx
        have hxw : H' w.1 = some (.ins a.Write w.2 (rwF x)) := hxw
        have mw : Mut L w.1 := DbAt.mutW (List.mem_of_getElem? hw)
        obtain ⟨j3, j4, _⟩ : TxAt a.Transaction H' (some t) (some ⟨n, z :: rs⟩) := by
          have hx := hI.txs
          rw [et] at hx
          cases hx
          assumption
        dsimp only at j3 j4
        have fin1 : endLRow n ((z :: rs).length : Int) (err.isNone && y.isNone) x = x → DB a H' L { D with stack := some ⟨n, z :: rs⟩ :: st, rows := (D.rows.take (i + 1)).map (endLRow n ((z :: rs).length : Int) (err.isNone && y.isNone)) ++ D.rows.drop (i + 1) } := fun e => by
          rw [← cur_same hx e]; exact hI
        have fin2 : DB a (upd H' w.1 (.ins a.Write w.2 (rwF (endLRow n ((z :: rs).length : Int) (err.isNone && y.isNone) x)))) L { D with stack := some ⟨n, z :: rs⟩ :: st, rows := (D.rows.take (i + 1)).map (endLRow n ((z :: rs).length : Int) (err.isNone && y.isNone)) ++ D.rows.drop (i + 1) } := by
          rw [← cur_step hx]; exact hI.setRow hw
        walk_at "rd"
        refine ite2 (fun b1 => ?_) (fun b1 => ?_)
        · have q1 : x.fate = "open" := V.str.inj (of_decide_eq_true b1)
          walk_at "rd"
          refine ite2 (fun b2 => ?_) (fun b2 => ?_)
          · have q2 : x.holder = n := V.int.inj (of_decide_eq_true b2)
            walk_at "rd"
            refine ite2 (fun b3 => ?_) (fun b3 => ?_)
            · have q3 : x.level = ((z :: rs).length : Int) := V.int.inj (of_decide_eq_true b3)
              have er : endLRow n ((z :: rs).length : Int) (err.isNone && y.isNone) x = if (err.isNone && y.isNone) = true then { x with level := ((z :: rs).length : Int) - 1 } else { x with fate := "undone" } := if_pos ⟨q1, q2, q3⟩
              rw [er] at fin2
              cases err with
              | some e =>
                walk_at "rd"
                exact ⟨_, fin2, fI.trans (Fr.set mw), rfl⟩
              | none =>
                cases y with
                | some y =>
                  walk_at "rd"
                  exact ⟨_, fin2, fI.trans (Fr.set mw), rfl⟩
                | none =>
                  walk_at "rd"
                  exact ⟨_, fin2, fI.trans (Fr.set mw), rfl⟩
            · have q3 : ¬ x.level = ((z :: rs).length : Int) := fun e => b3 (decide_eq_true (congrArg V.int e))
              exact ⟨_, fin1 (if_neg fun c => q3 c.2.2), fI, rfl⟩
          · have q2 : ¬ x.holder = n := fun e => b2 (decide_eq_true (congrArg V.int e))
            exact ⟨_, fin1 (if_neg fun c => q2 c.2.1), fI, rfl⟩
        · have q1 : ¬ x.fate = "open" := fun e => b1 (decide_eq_true (congrArg V.str e))
          exact ⟨_, fin1 (if_neg fun c => q1 c.1), fI, rfl⟩
      · rintro σ H' ⟨v5, hI, fI, rfl⟩
        have hlw : L.ws.length = D.rows.length := hD.rows.len
        rw [List.length_map, hlw, List.take_length, List.drop_length, List.append_nil] at hI
        have k0 := k _ _ hI fI
        cases err with
        | some e =>
          walk_at "rd"
          cases y <;> exact k0
        | none =>
          cases y with
          | none =>
            walk_at "rd"
            exact k0
          | some y =>
            walk_at "rd"
            exact k0
def endTD (D : Db) (err : Option Str) (c : Bool) : Db × Option EK := match D.stack with
  | some ⟨n, y :: _⟩ :: st => ({ D with stack := st, rows := D.rows.map (endTRow n (if (err.isNone && y.isNone && c) = true then "kept" else "undone")) }, endE err y c)
  | _ => (D, none)
def spEndT (a : Ad) : Sp := fun vs H Q E => ∃ L D err c n y rs st, vs = [.ref L.db, oV err, .bl c] ∧ DB a H L D ∧ Sm D ∧ D.stack = some ⟨n, y :: rs⟩ :: st ∧ st ≠ [] ∧ outE a (endTD D err c) H L Q E
theorem ok_Database_end_transaction (T : Txt K mg a d) : FnOk P w K mg base (L2.CX P w) 1 a.Database_end_transaction d.Database_end_transaction ["self", "error", "commits"] (spEndT a) := by
  refine T.Database_end_transaction.okX sc_Database_end_transaction (fun vs H Q E h => ?_) (fun cdv A outer s H vs Q E hr h => ?_)
  · obtain ⟨L, D, err, c, n, y, rs, st, rfl, _⟩ := h
    rfl
  · obtain ⟨L, D, err, c, n, y, rs, st, rfl, hD, hm, es, hst, k⟩ := h
    have c1 := T.k_Database
    have c2 := T.k_Transaction
    have c3 := T.k_Write
    have n1 := T.na_Database_stack
    have n2 := T.na_Database_rows
    have n3 := T.na_Transaction_reasons
    have n4 := T.na_Transaction_number
    have n5 := T.na_Write_fate
    have n6 := T.na_Write_holder
    have h1 := hD.db
    have h2 := hD.s
    unfold endTD at k
    rw [es] at k
    dsimp only at k
    rcases hD.top with ⟨ts, st', et, es'⟩ | ⟨t, ts, x, st', y', rs', et, es', ex, h4, h5⟩
    · rw [es] at es'
      cases es'
    · rw [es] at es'
      cases es'
      cases ex
      rw [et] at h2
      have e1 := rv_pop (f := tV) (x := some t) (l := ts)
      have e2 := rv_at (f := oV) (x := y) (l := rs)
      have mt : some t ∈ L.ts := by rw [et]; exact List.mem_cons_self
      have hD2 := hD.popS et es hst
      have f2 := Fr.popS (H := H) (o := .lst (rv tV ts)) et
      have g1 := hD2.db
      have g3 := upd_oth (o := .lst (rv tV ts)) (ins_ne h4 hD.s) h4
      have g4 := upd_oth (o := .lst (rv tV ts)) ((hD.qn t mt).2.1) h5
      dsimp only at g1 g3 g4
      rw [← rv_drop (f := tV) (x := some t) (l := ts)] at hD2 f2 g1 g3 g4
      replace k := k.fr f2
      have ntw : ∀ w ∈ L.ws, t.t ≠ w.1 := fun w hw => by
        obtain ⟨x, hx⟩ := hD.row hw
        exact row_ne_tx hD hx mt
      refine ⟨_, (pss_cons (ps_set (i := 3) sc_Database_end_transaction.nd rfl (Or.inl rfl) (pe_bm0 PySem.F.plainAttrs_list PySem.F.slot_list_pop PySem.F.type_list_pop mt_pop (pe_fld (pv 0) rfl)))
  (pss_cons (ps_set (i := 4) sc_Database_end_transaction.nd rfl (Or.inl rfl) (pe_ix ix_list (pe_fld (pv 3) rfl) (pe_un un_neg pe_int) (fun _ _ => rfl)))
  (pss_cons (ps_set (i := 5) sc_Database_end_transaction.nd rfl (Or.inl rfl) (pe_ifExp (PW.pt (pw_and (pt_cmpR op_isN (pv 1) pe_non (nomark _)) (pw_and (pt_cmpR op_isN (pv 4) pe_non (nomark _)) (pw_and1 (pt_val (pv 2)))))) pe_str pe_str))
  (pss_cons (ps_for (passes_of rfl) rfl (pi_list (pe_fld (pv 0) rfl)) (pg_name (i := 6) sc_Database_end_transaction.nd rfl (Or.inl rfl))
  (pss_one (ps_if (PW.pt (pw_and (pt_cmpR op_eq (pe_fld (pv 6) rfl) pe_str (nomark _)) (pw_and1 (pt_cmpR op_eq (pe_fld (pv 6) rfl) (pe_fld (pv 3) rfl) (nomark _))))) (pss_one (ps_fld (pv 6) (pv 5) rfl)) pss_nil)))
  (pss_cons (ps_if (PW.pt (pw_and (pt_cmpR op_isN (pv 1) pe_non (nomark _)) (pw_and1 (pt_cmpR op_notN (pv 4) pe_non (nomark _))))) (pss_one (ps_raise rfl (takes_of rfl rfl rfl rfl) (pmk_err T.e_Doomed T.g_Doomed T.n_super hr (pa_cons (pv 4) pa_nil)))) pss_nil)
  (pss_one (ps_if (PW.pt (pw_and (pt_cmpR op_isN (pv 1) pe_non (nomark _)) (pw_and1 (pt_not (pt_val (pv 2)))))) (pss_one (ps_raise rfl (takes_of rfl rfl rfl rfl) (pmk_err0 T.e_Refused T.g_Refused T.n_super hr))) pss_nil))))))), ?_⟩
      dsimp only [cxOf]
      walk_at "rd"
      generalize upd H L.s (.lst (rv tV (some t :: ts)).dropLast) = H1 at hD2 f2 g1 g3 g4 k ⊢
      have hlw : L.ws.length = D.rows.length := hD.rows.len
      cases err with
      | some e =>
        walk_at "rd"
        refine ⟨⟨_, SqL.of hD2.r⟩, ?_⟩
        refine for_list (xs := L.ws.map fun w => V.ref w.1) (fun i σ H' => ∃ v6, DB a H' { L with ts := ts } { D with stack := st, rows := (D.rows.take i).map (endTRow n "undone") ++ D.rows.drop i } ∧ Fr H1 H' { L with ts := ts } { L with ts := ts } ∧ H' t.t = some (.ins a.Transaction t.dt (txF n t.q)) ∧ σ = [some (.ref L.db), some (oV (some e)), some (.bl c), some (.ref t.t), some (oV y), some (.str "undone"), v6]) ?_ ?_ ?_ ?_
        · exact ⟨none, hD2, Fr.refl, g3, rfl⟩
        · rintro i σ H' _ ⟨v6, hI, _, _, rfl⟩
          exact SqL.of hI.r
        · rintro i v σ H' hv ⟨v6, hI, fI, j3, rfl⟩
          obtain ⟨w, hw, rfl⟩ := map_ref hv
          have hi : i < D.rows.length := by rw [← hlw]; exact (List.getElem?_eq_some_iff.mp hw).1
          obtain ⟨x, hx, hxw⟩ := hI.rows.get hw
          dsimp only at hx
          rw [cur_at (Nat.le_of_lt hi)] at hx
          have hxw : H' w.1 = some (.ins a.Write w.2 (rwF x)) := hxw
          have wm := List.mem_of_getElem? hw
          have mw : Mut { L with ts := ts } w.1 := DbAt.mutW (L := { L with ts := ts }) wm
          have fin1 : endTRow n "undone" x = x → DB a H' { L with ts := ts } { D with stack := st, rows := (D.rows.take (i + 1)).map (endTRow n "undone") ++ D.rows.drop (i + 1) } := fun e => by
            rw [← cur_same hx e]; exact hI
          have fin2 : DB a (upd H' w.1 (.ins a.Write w.2 (rwF (endTRow n "undone" x)))) { L with ts := ts } { D with stack := st, rows := (D.rows.take (i + 1)).map (endTRow n "undone") ++ D.rows.drop (i + 1) } := by
            rw [← cur_step hx]; exact hI.setRow (L := { L with ts := ts }) hw
          walk_at "rd"
          refine ite2 (fun b1 => ?_) (fun b1 => ?_)
          · have q1 : x.fate = "open" := V.str.inj (of_decide_eq_true b1)
            walk_at "rd"
            refine ite2 (fun b2 => ?_) (fun b2 => ?_)
            · have q2 : x.holder = n := V.int.inj (of_decide_eq_true b2)
              have er : endTRow n "undone" x = { x with fate := "undone" } := if_pos ⟨q1, q2⟩
              rw [er] at fin2
              walk_at "rd"
              exact ⟨_, fin2, fI.trans (Fr.set mw), upd_oth (ntw w wm) j3, rfl⟩
            · have q2 : ¬ x.holder = n := fun e => b2 (decide_eq_true (congrArg V.int e))
              exact ⟨_, fin1 (if_neg fun c => q2 c.2), fI, j3, rfl⟩
          · have q1 : ¬ x.fate = "open" := fun e => b1 (decide_eq_true (congrArg V.str e))
            exact ⟨_, fin1 (if_neg fun c => q1 c.1), fI, j3, rfl⟩
        · rintro σ H' ⟨v6, hI, fI, j3, rfl⟩
          rw [List.length_map, hlw, List.take_length, List.drop_length, List.append_nil] at hI
          have k0 := k _ _ hI fI
          walk_at "rd"
          cases y <;> exact k0
      | none =>
        cases y with
        | some y =>
          walk_at "rd"
          refine ⟨⟨_, SqL.of hD2.r⟩, ?_⟩
          refine for_list (xs := L.ws.map fun w => V.ref w.1) (fun i σ H' => ∃ v6, DB a H' { L with ts := ts } { D with stack := st, rows := (D.rows.take i).map (endTRow n "undone") ++ D.rows.drop i } ∧ Fr H1 H' { L with ts := ts } { L with ts := ts } ∧ H' t.t = some (.ins a.Transaction t.dt (txF n t.q)) ∧ σ = [some (.ref L.db), some (oV none), some (.bl c), some (.ref t.t), some (oV (some y)), some (.str "undone"), v6]) ?_ ?_ ?_ ?_
          · exact ⟨none, hD2, Fr.refl, g3, rfl⟩
          · rintro i σ H' _ ⟨v6, hI, _, _, rfl⟩
            exact SqL.of hI.r
          · rintro i v σ H' hv ⟨v6, hI, fI, j3, rfl⟩
            obtain ⟨w, hw, rfl⟩ := map_ref hv
            have hi : i < D.rows.length := by rw [← hlw]; exact (List.getElem?_eq_some_iff.mp hw).1
            obtain ⟨x, hx, hxw⟩ := hI.rows.get hw
            dsimp only at hx
            rw [cur_at (Nat.le_of_lt hi)] at hx
            have hxw : H' w.1 = some (.ins a.Write w.2 (rwF x)) := hxw
            have wm := List.mem_of_getElem? hw
            have mw : Mut { L with ts := ts } w.1 := DbAt.mutW (L := { L with ts := ts }) wm
            have fin1 : endTRow n "undone" x = x → DB a H' { L with ts := ts } { D with stack := st, rows := (D.rows.take (i + 1)).map (endTRow n "undone") ++ D.rows.drop (i + 1) } := fun e => by
              rw [← cur_same hx e]; exact hI
            have fin2 : DB a (upd H' w.1 (.ins a.Write w.2 (rwF (endTRow n "undone" x)))) { L with ts := ts } { D with stack := st, rows := (D.rows.take (i + 1)).map (endTRow n "undone") ++ D.rows.drop (i + 1) } := by
              rw [← cur_step hx]; exact hI.setRow (L := { L with ts := ts }) hw
            walk_at "rd"
            refine ite2 (fun b1 => ?_) (fun b1 => ?_)
            · have q1 : x.fate = "open" := V.str.inj (of_decide_eq_true b1)
              walk_at "rd"
              refine ite2 (fun b2 => ?_) (fun b2 => ?_)
              · have q2 : x.holder = n := V.int.inj (of_decide_eq_true b2)
                have er : endTRow n "undone" x = { x with fate := "undone" } := if_pos ⟨q1, q2⟩
                rw [er] at fin2
                walk_at "rd"
                exact ⟨_, fin2, fI.trans (Fr.set mw), upd_oth (ntw w wm) j3, rfl⟩
              · have q2 : ¬ x.holder = n := fun e => b2 (decide_eq_true (congrArg V.int e))
                exact ⟨_, fin1 (if_neg fun c => q2 c.2), fI, j3, rfl⟩
            · have q1 : ¬ x.fate = "open" := fun e => b1 (decide_eq_true (congrArg V.str e))
              exact ⟨_, fin1 (if_neg fun c => q1 c.1), fI, j3, rfl⟩
          · rintro σ H' ⟨v6, hI, fI, j3, rfl⟩
            rw [List.length_map, hlw, List.take_length, List.drop_length, List.append_nil] at hI
            have k0 := k _ _ hI fI
            walk_at "rd"
            exact k0
        | none =>
          cases c with
          | true =>
            walk_at "rd"
            refine ⟨⟨_, SqL.of hD2.r⟩, ?_⟩
            refine for_list (xs := L.ws.map fun w => V.ref w.1) (fun i σ H' => ∃ v6, DB a H' { L with ts := ts } { D with stack := st, rows := (D.rows.take i).map (endTRow n "kept") ++ D.rows.drop i } ∧ Fr H1 H' { L with ts := ts } { L with ts := ts } ∧ H' t.t = some (.ins a.Transaction t.dt (txF n t.q)) ∧ σ = [some (.ref L.db), some (oV none), some (.bl true), some (.ref t.t), some (oV none), some (.str "kept"), v6]) ?_ ?_ ?_ ?_
            · exact ⟨none, hD2, Fr.refl, g3, rfl⟩
            · rintro i σ H' _ ⟨v6, hI, _, _, rfl⟩
              exact SqL.of hI.r
            · rintro i v σ H' hv ⟨v6, hI, fI, j3, rfl⟩
              obtain ⟨w, hw, rfl⟩ := map_ref hv
              have hi : i < D.rows.length := by rw [← hlw]; exact (List.getElem?_eq_some_iff.mp hw).1
              obtain ⟨x, hx, hxw⟩ := hI.rows.get hw
              dsimp only at hx
              rw [cur_at (Nat.le_of_lt hi)] at hx
              have hxw : H' w.1 = some (.ins a.Write w.2 (rwF x)) := hxw
              have wm := List.mem_of_getElem? hw
              have mw : Mut { L with ts := ts } w.1 := DbAt.mutW (L := { L with ts := ts }) wm
              have fin1 : endTRow n "kept" x = x → DB a H' { L with ts := ts } { D with stack := st, rows := (D.rows.take (i + 1)).map (endTRow n "kept") ++ D.rows.drop (i + 1) } := fun e => by
                rw [← cur_same hx e]; exact hI
              have fin2 : DB a (upd H' w.1 (.ins a.Write w.2 (rwF (endTRow n "kept" x)))) { L with ts := ts } { D with stack := st, rows := (D.rows.take (i + 1)).map (endTRow n "kept") ++ D.rows.drop (i + 1) } := by
                rw [← cur_step hx]; exact hI.setRow (L := { L with ts := ts }) hw
              walk_at "rd"
              refine ite2 (fun b1 => ?_) (fun b1 => ?_)
              · have q1 : x.fate = "open" := V.str.inj (of_decide_eq_true b1)
                walk_at "rd"
                refine ite2 (fun b2 => ?_) (fun b2 => ?_)
                · have q2 : x.holder = n := V.int.inj (of_decide_eq_true b2)
                  have er : endTRow n "kept" x = { x with fate := "kept" } := if_pos ⟨q1, q2⟩
                  rw [er] at fin2
                  walk_at "rd"
                  exact ⟨_, fin2, fI.trans (Fr.set mw), upd_oth (ntw w wm) j3, rfl⟩
                · have q2 : ¬ x.holder = n := fun e => b2 (decide_eq_true (congrArg V.int e))
                  exact ⟨_, fin1 (if_neg fun c => q2 c.2), fI, j3, rfl⟩
              · have q1 : ¬ x.fate = "open" := fun e => b1 (decide_eq_true (congrArg V.str e))
                exact ⟨_, fin1 (if_neg fun c => q1 c.1), fI, j3, rfl⟩
            · rintro σ H' ⟨v6, hI, fI, j3, rfl⟩
              rw [List.length_map, hlw, List.take_length, List.drop_length, List.append_nil] at hI
              have k0 := k _ _ hI fI
              walk_at "rd"
              exact k0
          | false =>
            walk_at "rd"
            refine ⟨⟨_, SqL.of hD2.r⟩, ?_⟩
            refine for_list (xs := L.ws.map fun w => V.ref w.1) (fun i σ H' => ∃ v6, DB a H' { L with ts := ts } { D with stack := st, rows := (D.rows.take i).map (endTRow n "undone") ++ D.rows.drop i } ∧ Fr H1 H' { L with ts := ts } { L with ts := ts } ∧ H' t.t = some (.ins a.Transaction t.dt (txF n t.q)) ∧ σ = [some (.ref L.db), some (oV none), some (.bl false), some (.ref t.t), some (oV none), some (.str "undone"), v6]) ?_ ?_ ?_ ?_
            · exact ⟨none, hD2, Fr.refl, g3, rfl⟩
            · rintro i σ H' _ ⟨v6, hI, _, _, rfl⟩
              exact SqL.of hI.r
            · rintro i v σ H' hv ⟨v6, hI, fI, j3, rfl⟩
              obtain ⟨w, hw, rfl⟩ := map_ref hv
              have hi : i < D.rows.length := by rw [← hlw]; exact (List.getElem?_eq_some_iff.mp hw).1
              obtain ⟨x, hx, hxw⟩ := hI.rows.get hw
              dsimp only at hx
              rw [cur_at (Nat.le_of_lt hi)] at hx
              have hxw : H' w.1 = some (.ins a.Write w.2 (rwF x)) := hxw
              have wm := List.mem_of_getElem? hw
              have mw : Mut { L with ts := ts } w.1 := DbAt.mutW (L := { L with ts := ts }) wm
              have fin1 : endTRow n "undone" x = x → DB a H' { L with ts := ts } { D with stack := st, rows := (D.rows.take (i + 1)).map (endTRow n "undone") ++ D.rows.drop (i + 1) } := fun e => by
                rw [← cur_same hx e]; exact hI
              have fin2 : DB a (upd H' w.1 (.ins a.Write w.2 (rwF (endTRow n "undone" x)))) { L with ts := ts } { D with stack := st, rows := (D.rows.take (i + 1)).map (endTRow n "undone") ++ D.rows.drop (i + 1) } := by
                rw [← cur_step hx]; exact hI.setRow (L := { L with ts := ts }) hw
              walk_at "rd"
              refine ite2 (fun b1 => ?_) (fun b1 => ?_)
              · have q1 : x.fate = "open" := V.str.inj (of_decide_eq_true b1)
                walk_at "rd"
                refine ite2 (fun b2 => ?_) (fun b2 => ?_)
                · have q2 : x.holder = n := V.int.inj (of_decide_eq_true b2)
                  have er : endTRow n "undone" x = { x with fate := "undone" } := if_pos ⟨q1, q2⟩
                  rw [er] at fin2
                  walk_at "rd"
                  exact ⟨_, fin2, fI.trans (Fr.set mw), upd_oth (ntw w wm) j3, rfl⟩
                · have q2 : ¬ x.holder = n := fun e => b2 (decide_eq_true (congrArg V.int e))
                  exact ⟨_, fin1 (if_neg fun c => q2 c.2), fI, j3, rfl⟩
              · have q1 : ¬ x.fate = "open" := fun e => b1 (decide_eq_true (congrArg V.str e))
                exact ⟨_, fin1 (if_neg fun c => q1 c.1), fI, j3, rfl⟩
            · rintro σ H' ⟨v6, hI, fI, j3, rfl⟩
              rw [List.length_map, hlw, List.take_length, List.drop_length, List.append_nil] at hI
              have k0 := k _ _ hI fI
              walk_at "rd"
              exact k0
/-! ### leave -/
theorem bd_leave0 (T : Txt K mg a d) : ∃ ds, Vals [V.non, .bl true] ds ∧ Binds K d.Database_leave ["self", "error", "commits"] ds :=
  T.Database_leave.binds (ps := ["self", "error", "commits"]) 1 0 (by simp) rfl (fun T D doc pm an cdv ct us its ks hu hi hk => match us, hu, its, hi, ks, hk with | [_], _, [_], _, [_], _ => ⟨_, rfl, _, _, _, _, _, _, rfl, rfl, rfl⟩) (by simp)
theorem bd_leave1 (T : Txt K mg a d) : ∃ ds, Vals [V.bl true] ds ∧ Binds K d.Database_leave ["self", "error", "commits"] ds :=
  T.Database_leave.binds (ps := ["self", "error", "commits"]) 2 1 (by simp) rfl (fun T D doc pm an cdv ct us its ks hu hi hk => match us, hu, its, hi, ks, hk with | [_, _], _, [_], _, [_], _ => ⟨_, rfl, _, _, _, _, _, _, rfl, rfl, rfl⟩) (by simp)
/-- the blocks and the transactions fit -/
inductive Wf : List Str → List (Option Tx) → Prop
  | nil : Wf [] [none]
  | plain {es st} (h : Wf es (none :: st)) : Wf ("plain" :: es) (none :: st)
  | base {es st n y} (h : Wf es st) : Wf ("base" :: es) (some ⟨n, [y]⟩ :: st)
  | level {es st n y z rs} (h : Wf es (some ⟨n, z :: rs⟩ :: st)) : Wf ("level" :: es) (some ⟨n, y :: z :: rs⟩ :: st)
  | joined {es st n y rs} (h : Wf es (some ⟨n, y :: rs⟩ :: st)) : Wf ("joined" :: es) (some ⟨n, y :: rs⟩ :: st)
  | outside {es st x} (h : Wf es (some x :: st)) : Wf ("outside" :: es) (none :: some x :: st)
theorem Wf.ne {es : List Str} {st : List (Option Tx)} (h : Wf es st) : st ≠ [] := by cases h <;> simp
def leaveW (D : Db) (err : Option Str) (c : Bool) : Db × Option EK := match D.entered with
  | [] => (D, some .noblock)
  | e :: es =>
    if e = "outside" then ({ D with entered := es, stack := D.stack.tail }, none) else
    if e = "joined" then ((match err with
      | some z => doomD { D with entered := es } z
      | none => { D with entered := es }), none) else
    if e = "level" then endLD { D with entered := es } err else
    if e = "base" then endTD { D with entered := es } err c else
    ({ D with entered := es }, none)
def leaveD (D : Db) (err : Option Str) (c : Bool) : Db × Option EK := if (D.entered.length : Int) ≤ D.floor then (D, some .noblock) else leaveW D err c
def leaveV (D : Db) (v : V) (c : Bool) : Db × Option EK := match v with
  | .non => leaveD D none c
  | .str z => if wordS z = true then leaveD D (some z) c else if (D.entered.length : Int) ≤ D.floor then (D, some .noblock) else (D, some (.badword v))
  | v => if (D.entered.length : Int) ≤ D.floor then (D, some .noblock) else (D, some (.badword v))
theorem leaveV_o {D : Db} {err : Option Str} {c : Bool} (h : ∀ z, err = some z → IsWord z) : leaveV D (oV err) c = leaveD D err c := by
  cases err with
  | none => rfl
  | some z =>
    show (if wordS z = true then _ else _) = _
    rw [if_pos (h z rfl).ok]
def spLeave (a : Ad) : Sp := fun vs H Q E => ∃ L D v c, vs = [.ref L.db, v, .bl c] ∧ Thing H v ∧ DB a H L D ∧ Sm D ∧ 0 ≤ D.floor ∧ Wf D.entered D.stack ∧ outE a (leaveV D v c) H L Q E
theorem ok_Database_leave (T : Txt K mg a d) : FnOk P w K mg base (L2.CX P w) 3 a.Database_leave d.Database_leave ["self", "error", "commits"] (spLeave a) := by
  have G_is_word : FnOk P w K mg base CX0 1 a.is_word d.is_word ["thing"] spIsWord := ok_is_word T
  have G_Database_doom : FnOk P w K mg base (L2.CX P w) 2 a.Database_doom d.Database_doom ["self", "first"] (spDoom a) := ok_Database_doom T
  have G_Database_end_level : FnOk P w K mg base (L2.CX P w) 1 a.Database_end_level d.Database_end_level ["self", "error"] (spEndL a) := ok_Database_end_level T
  have G_Database_end_transaction : FnOk P w K mg base (L2.CX P w) 1 a.Database_end_transaction d.Database_end_transaction ["self", "error", "commits"] (spEndT a) := ok_Database_end_transaction T
  refine T.Database_leave.ok sc_Database_leave (fun vs H Q E h => ?_) (fun cdv A outer s H vs Q E hr h => ?_)
  · obtain ⟨L, D, v, c, rfl, _⟩ := h
    rfl
  · obtain ⟨L, D, v, c, rfl, tv, hD, hm, hfl, hw, k⟩ := h
    have c1 := T.k_Database
    have n1 := T.na_Database_stack
    have n2 := T.na_Database_entered
    have n3 := T.na_Database_floor
    have h1 := hD.db
    have h2 := hD.s
    have h3 := hD.e
    refine ⟨_, (pss_cons (ps_if (pt_cmpR op_le (pe_callB call_len_seq (by rfl) T.n_len PySem.boot_len (pa_cons (pe_fld (pv 0) rfl) pa_nil)) (pe_fld (pv 0) rfl) (nomark _)) (pss_one (ps_raise rfl (takes_of rfl rfl rfl rfl) (pmk_err0 T.e_NoBlock T.g_NoBlock T.n_super hr))) pss_nil)
  (pss_cons (ps_if (PW.pt (pw_and (pt_cmpR op_notN (pv 1) pe_non (nomark _)) (pw_and1 (pt_not (pt_val (pe_call G_is_word (hr.mono (by decide)) (by rfl) T.g_is_word T.is_word.kp T.b_is_word .nil pass0 (pa_cons (pv 1) pa_nil))))))) (pss_one (ps_raise rfl (takes_of rfl rfl rfl rfl) (pmk_err T.e_BadWord T.g_BadWord T.n_super hr (pa_cons (pv 1) pa_nil)))) pss_nil)
  (pss_cons (ps_set (i := 3) sc_Database_leave.nd rfl (Or.inl rfl) (pe_bm0 PySem.F.plainAttrs_list PySem.F.slot_list_pop PySem.F.type_list_pop mt_pop (pe_fld (pv 0) rfl)))
  (pss_one (ps_if (pt_cmpR op_eq (pv 3) pe_str (nomark _)) (pss_one (ps_expr (pe_bm0 PySem.F.plainAttrs_list PySem.F.slot_list_pop PySem.F.type_list_pop mt_pop (pe_fld (pv 0) rfl)))) (pss_one (ps_if (PW.pt (pw_and (pt_cmpR op_eq (pv 3) pe_str (nomark _)) (pw_and1 (pt_cmpR op_notN (pv 1) pe_non (nomark _))))) (pss_one (ps_expr (pe_meth (pv 0) T.k_Database T.m_Database_doom G_Database_doom (hr.mono (by decide)) (bd_doom T) .nil (passes_call (takes_of rfl rfl rfl rfl) (fun _ _ _ _ h => h)) (pa_cons (pv 1) pa_nil)))) (pss_one (ps_if (pt_cmpR op_eq (pv 3) pe_str (nomark _)) (pss_one (ps_expr (pe_meth (pv 0) T.k_Database T.m_Database_end_level G_Database_end_level (hr.mono (by decide)) T.b_Database_end_level .nil (passes_call (takes_of rfl rfl rfl rfl) (fun _ _ _ _ h => h)) (pa_cons (pv 1) pa_nil)))) (pss_one (ps_if (pt_cmpR op_eq (pv 3) pe_str (nomark _)) (pss_one (ps_expr (pe_meth (pv 0) T.k_Database T.m_Database_end_transaction G_Database_end_transaction (hr.mono (by decide)) T.b_Database_end_transaction .nil (passes_call (takes_of rfl rfl rfl rfl) (fun _ _ _ _ h => h)) (pa_cons (pv 1) (pa_cons (pv 2) pa_nil))))) pss_nil))))))))))), ?_⟩
    dsimp only [cxOf]
    walk_at "rd"
    rw [rv_len]
    by_cases hfl2 : (D.entered.length : Int) ≤ D.floor
    · have k1 : outE a (D, some .noblock) H L Q E := by
        have e : leaveV D v c = (D, some .noblock) := by
          unfold leaveV leaveD
          repeat' split
          all_goals first | rfl | contradiction
        rw [e] at k
        exact k
      rw [decide_eq_true hfl2]
      refine iteT ?_
      walk_at "rd"
      exact k1 H L hD Fr.refl
    rw [decide_eq_false hfl2]
    refine iteF ?_
    have go : ∀ err : Option Str, (∀ z, err = some z → IsWord z) → v = oV err → outE a (leaveW D err c) H L Q E := fun err he hv => by
      subst hv
      rw [leaveV_o he] at k
      unfold leaveD at k
      rw [if_neg hfl2] at k
      exact k
    cases hent : D.entered with
    | nil =>
      rw [hent] at hfl2
      exact absurd hfl hfl2
    | cons e es =>
      rw [hent] at h3 hw
      have e2 := rv_pop (f := V.str) (x := e) (l := es)
      have hw2 := hw
      generalize est : D.stack = stk at hw2
      have hD2 := hD.setE es
      have f2 := Fr.set (H := H) (L := L) (o := .lst (rv V.str es)) DbAt.mutE
      have hm2 : Sm { D with entered := es } := ⟨by have := hm.e; rw [hent, List.length_cons] at this; exact Nat.le_of_succ_le this, hm.s, hm.r, hm.n⟩
      have g1 := hD2.db
      dsimp only at g1
      rw [← rv_drop (f := V.str) (x := e) (l := es)] at hD2 f2 g1
      have kk : ∀ err : Option Str, (∀ z, err = some z → IsWord z) → v = oV err → outE a (if e = "outside" then ({ D with entered := es, stack := D.stack.tail }, none) else if e = "joined" then ((match err with
          | some z => doomD { D with entered := es } z
          | none => { D with entered := es }), none) else if e = "level" then endLD { D with entered := es } err else if e = "base" then endTD { D with entered := es } err c else ({ D with entered := es }, none)) H L Q E := fun err he hv => by
        have := go err he hv
        unfold leaveW at this
        rw [hent] at this
        exact this
      cases hv0 : decide (v = .non) with
      | true =>
        cases (of_decide_eq_true hv0 : v = .non)
        have k0 := kk none (fun z e => nomatch e) rfl
        walk_at "rd"
        generalize upd H L.e (.lst (rv V.str (e :: es)).dropLast) = H2 at hD2 f2 g1 ⊢
        cases hw2 with
        | plain h =>
          walk_at "rd"
          have z := k0 _ _ hD2 f2
          exact z
        | outside h =>
          have et := hD2.top
          rcases et with ⟨ts, st', et, es'⟩ | ⟨t, ts, x, st', y', rs', et, es', ex, h4, h5⟩
          · dsimp only at es'
            rw [est] at es'
            cases es'
            have g2 := hD2.s
            rw [et] at g2
            have e3 := rv_pop (f := tV) (x := none) (l := ts)
            walk_at "rd"
            have hD3 := hD2.popS et est (by simp)
            have f3 := Fr.popS (H := H2) (o := .lst (rv tV ts)) et
            rw [← rv_drop (f := tV) (x := none) (l := ts)] at hD3 f3
            rw [est] at k0
            exact k0 _ _ hD3 (f2.trans f3)
          · dsimp only at es'
            rw [est] at es'
            cases es'
        | joined h =>
          walk_at "rd"
          have z := k0 _ _ hD2 f2
          exact z
        | level h =>
          walk_at "rd"
          exact ⟨L, { D with entered := es }, none, _, _, _, _, _, rfl, hD2, hm2, est, outE.fr k0 f2⟩
        | base h =>
          walk_at "rd"
          exact ⟨L, { D with entered := es }, none, c, _, _, _, _, rfl, hD2, hm2, est, h.ne, outE.fr k0 f2⟩
      | false =>
        have hnv : ¬ v = .non := of_decide_eq_false hv0
        walk_at "rd"
        rw [hv0]
        walk_at "rd"
        cases bz : wordB v with
        | false =>
          have k1 : outE a (D, some (.badword v)) H L Q E := by
            have e : leaveV D v c = (D, some (.badword v)) := by
              unfold leaveV
              split
              · exact absurd rfl hnv
              · rename_i z
                rw [if_neg (show ¬ wordS z = true from fun q => by rw [show wordB (.str z) = wordS z from rfl, q] at bz; cases bz), if_neg hfl2]
              · rw [if_neg hfl2]
            rw [e] at k
            exact k
          refine iteT ?_
          walk_at "rd"
          exact k1 H L hD Fr.refl
        | true =>
          refine iteF ?_
          obtain ⟨z, rfl⟩ : ∃ z, v = .str z := by
            cases v <;> first | exact ⟨_, rfl⟩ | cases bz
          have hz : IsWord z := wordS_of bz
          have k0 := kk (some z) (fun z' e => Option.some.inj e ▸ hz) rfl
          have tz := word_thing (H := upd H L.e (.lst (rv V.str (e :: es)).dropLast)) hz
          walk_at "rd"
          generalize upd H L.e (.lst (rv V.str (e :: es)).dropLast) = H2 at hD2 f2 g1 tz ⊢
          cases hw2 with
          | plain h =>
            walk_at "rd"
            have z := k0 _ _ hD2 f2
            exact z
          | outside h =>
            have et := hD2.top
            rcases et with ⟨ts, st', et, es'⟩ | ⟨t, ts, x, st', y', rs', et, es', ex, h4, h5⟩
            · dsimp only at es'
              rw [est] at es'
              cases es'
              have g2 := hD2.s
              rw [et] at g2
              have e3 := rv_pop (f := tV) (x := none) (l := ts)
              walk_at "rd"
              have hD3 := hD2.popS et est (by simp)
              have f3 := Fr.popS (H := H2) (o := .lst (rv tV ts)) et
              rw [← rv_drop (f := tV) (x := none) (l := ts)] at hD3 f3
              rw [est] at k0
              exact k0 _ _ hD3 (f2.trans f3)
            · dsimp only at es'
              rw [est] at es'
              cases es'
          | joined h =>
            walk_at "rd"
            refine ⟨L, { D with entered := es }, .str z, rfl, tz, hD2, ?_⟩
            rw [doomV_word hz]
            exact outE.fr k0 f2
          | level h =>
            walk_at "rd"
            exact ⟨L, { D with entered := es }, (some z), _, _, _, _, _, rfl, hD2, hm2, est, outE.fr k0 f2⟩
          | base h =>
            walk_at "rd"
            exact ⟨L, { D with entered := es }, (some z), c, _, _, _, _, rfl, hD2, hm2, est, h.ne, outE.fr k0 f2⟩
theorem cut_rv {α : Type} {f : α → V} {x : α} {l : List α} : cutV (rv f (x :: l)) none (some (-1)) = rv f l := by
  rw [rv_cons]
  show List.take (HT.sIx (rv f l ++ [f x]).length (rv f l ++ [f x]).length (some (-1)) - 0) (List.drop 0 (rv f l ++ [f x])) = rv f l
  rw [List.drop_zero, Nat.sub_zero]
  have e : HT.sIx (rv f l ++ [f x]).length (rv f l ++ [f x]).length (some (-1)) = (rv f l).length := by
    unfold HT.sIx
    rw [List.length_append, List.length_singleton]
    simp only
    rw [if_pos (by decide)]
    omega
  rw [e, List.take_left]
/-! ### held records -/
def spHeldBy (K : PySem.W.Frag) (a : Ad) : Sp := fun vs H Q _ => ∃ L D p ns, vs = [.ref L.db, .ref p] ∧ SqL K H p (ns.map V.int) ∧ DB a H L D ∧ Sm D ∧
  ∀ H' q, Same H H' → H' q = some (.lst ((sortT (heldL D.rows ns)).map V.str)) → H q = none → Q (.ref q) H'
theorem inV_ints {i : Int} {ns : List Int} : inV (.int i) (ns.map V.int) = decide (i ∈ ns) := by
  unfold inV
  rw [List.any_map]
  induction ns with
  | nil => rfl
  | cons n r ih =>
    rw [List.any_cons, ih]
    have e : eqV (V.int n) (V.int i) = decide (n = i) := by
      show (n == i) = decide (n = i)
      exact (by by_cases h : n = i <;> simp [h])
    show (eqV (V.int n) (V.int i) || decide (i ∈ r)) = _
    rw [e]
    by_cases h : n = i
    · subst h
      simp
    · have h' : ¬ i = n := fun z => h z.symm
      simp [h, h']
theorem ok_Database_held_by (T : Txt K mg a d) : FnOk P w K mg base CX0 1 a.Database_held_by d.Database_held_by ["self", "numbers"] (spHeldBy K a) := by
  refine T.Database_held_by.ok sc_Database_held_by (fun vs H Q E h => ?_) (fun cdv A outer s H vs Q E hr h => ?_)
  · obtain ⟨L, D, p, ns, rfl, _⟩ := h
    rfl
  · obtain ⟨L, D, p, ns, rfl, hp, hD, hm, k⟩ := h
    have c1 := T.k_Database
    have c3 := T.k_Write
    have n2 := T.na_Database_rows
    have n5 := T.na_Write_fate
    have n6 := T.na_Write_holder
    have n7 := T.na_Write_record
    have h1 := hD.db
    have h2 := hD.r
    refine ⟨_, (pss_one (ps_ret (pe_callB (cr_sortTS rfl) (by rfl) T.n_sorted (by decide +kernel) (pa_cons (pe_scT (own := [("row", 2)]) rfl sc_Database_held_by.nd (pi_list (pe_fld (pv 0) rfl)) (blkOk_by (own := [("row", 2)]) (N := ["self", "numbers", "row"]) (sc := defScope s_Database_held_by) (by decide +kernel)) (fun _ _ _ _ _ => (pg_name (i := 2) sc_Database_held_by.nd rfl (Or.inl rfl))) (fun _ _ _ _ _ => (pts_one (PW.pt (pw_and (pt_cmpR op_eq (pe_fldK (K := K) rfl (pv 2) rfl) pe_str (nomark _)) (pw_and1 (pt_cmpR (op_inK (K := K) rfl) (pe_fldK (K := K) rfl (pv 2) rfl) (pv 1) (by rfl))))))) (fun _ _ _ _ _ => (pe_fldK (K := K) rfl (pv 2) rfl))) pa_nil)))), ?_⟩
    dsimp only [cxOf]
    walk_at "rd"
    refine ⟨⟨_, SqL.of h2⟩, ?_⟩
    intro S hS
    have hlw : L.ws.length = D.rows.length := hD.rows.len
    refine sc_listT (xs := L.ws.map fun w => V.ref w.1) (fun i H' => Kp (fun b => b = S) H H' ∧ H' S = some (TSO w S (heldL (D.rows.take i) ns))) ?_ ?_ ?_ ?_
    · exact ⟨Kp.refl.fresh hS, upd_same⟩
    · rintro i H' _ ⟨kp, _⟩
      exact SqL.of (kp _ _ h2 (ne_of_none h2 hS))
    · rintro i v H' hv ⟨kp, hS'⟩
      obtain ⟨w', hw, rfl⟩ := map_ref hv
      obtain ⟨x, hx, hxw⟩ := hD.rows.get hw
      have hxw : H w'.1 = some (.ins a.Write w'.2 (rwF x)) := hxw
      have hx' := kp _ _ hxw (ne_of_none hxw hS)
      have hp' : SqL K H' p (ns.map V.int) := (Same.seq (Kp.same (Same.refl H) kp fun c e => e ▸ hS) hp)
      have hl : (heldL (D.rows.take i) ns).length + 1 < scanBound := by
        have h1 := held_len (rows := D.rows.take i) (ns := ns)
        have h2 := hm.n
        have h3 : (D.rows.take i).length ≤ D.rows.length := by rw [List.length_take]; omega
        have h4 : scanBound = 4096 := rfl
        omega
      rw [held_take (ns := ns) hx]
      walk_at "rd"
      refine ite2 (fun b1 => ?_) (fun b1 => ?_)
      · have q1 : x.fate = "open" := V.str.inj (of_decide_eq_true b1)
        walk_at "rd"
        refine ⟨?_, ?_⟩
        · rw [List.all_map]
          exact List.all_eq_true.mpr fun _ _ => rfl
        rw [show (if false = true then !inV (V.int x.holder) (ns.map V.int) else inV (V.int x.holder) (ns.map V.int)) = inV (V.int x.holder) (ns.map V.int) from rfl, inV_ints]
        by_cases b2 : x.holder ∈ ns
        · rw [decide_eq_true b2, show heldS ns (heldL (D.rows.take i) ns) x = addT x.rcd (heldL (D.rows.take i) ns) from if_pos ⟨q1, b2⟩]
          walk_at "rd"
          first
            | exact ⟨kp.set1, upd_same⟩
            | exact upd_same
        · rw [decide_eq_false b2, show heldS ns (heldL (D.rows.take i) ns) x = heldL (D.rows.take i) ns from if_neg fun c => b2 c.2]
          exact ⟨_, rfl, kp, hS'⟩
      · have q1 : ¬ x.fate = "open" := fun e => b1 (decide_eq_true (congrArg V.str e))
        rw [show heldS ns (heldL (D.rows.take i) ns) x = heldL (D.rows.take i) ns from if_neg fun c => q1 c.1]
        exact ⟨kp, hS'⟩
    · rintro H' ⟨kp, hS'⟩
      rw [List.length_map, hlw, List.take_length] at hS'
      have sm : Same H H' := Kp.same (Same.refl H) kp fun c e => e ▸ hS
      refine ⟨S, _, rfl, hS', fun q hq => k _ q (sm.new hq) upd_same (sm.free hq)⟩
/-- [one.number for one in ts if one is not None] -/
def numsR (st : List (Option Tx)) : List Int := (st.reverse.filterMap fun t => t.map (·.num))
def outerL (D : Db) : List Str := sortT (heldL D.rows (numsR D.stack.tail))
def ownL (D : Db) : List Str := sortT (heldL D.rows (numsR (D.stack.take 1)))
theorem nums_step {st : List (Option Tx)} {i : Nat} {t : Option Tx} (h : st.reverse[i]? = some t) : (st.reverse.take (i + 1)).filterMap (fun t => t.map (·.num)) = (st.reverse.take i).filterMap (fun t => t.map (·.num)) ++ (t.map (·.num)).toList := by
  rw [List.take_add_one, h, List.filterMap_append]
  cases t <;> rfl
theorem All2.rev {α β : Type} {R : α → β → Prop} {l : List α} {m : List β} (a : All2 R l m) : All2 R l.reverse m.reverse := by
  induction a with
  | nil => exact .nil
  | cons r _ ih => rw [List.reverse_cons, List.reverse_cons]; exact ih.snoc r
def spRecs (a : Ad) (f : Db → List Str) : Sp := fun vs H Q _ => ∃ L D, vs = [.ref L.db] ∧ DB a H L D ∧ Sm D ∧ ∀ H' q, Same H H' → H' q = some (.lst ((f D).map V.str)) → H q = none → Q (.ref q) H'
theorem ok_Database_outer_records (T : Txt K mg a d) : FnOk P w K mg base CX0 2 a.Database_outer_records d.Database_outer_records ["self"] (spRecs a outerL) := by
  have G_Database_held_by : FnOk P w K mg base CX0 1 a.Database_held_by d.Database_held_by ["self", "numbers"] (spHeldBy K a) := ok_Database_held_by T
  refine T.Database_outer_records.ok sc_Database_outer_records (fun vs H Q E h => ?_) (fun cdv A outer s H vs Q E hr h => ?_)
  · obtain ⟨L, D, rfl, _⟩ := h
    rfl
  · obtain ⟨L, D, rfl, hD, hm, k⟩ := h
    have c1 := T.k_Database
    have c2 := T.k_Transaction
    have n1 := T.na_Database_stack
    have n4 := T.na_Transaction_number
    have h1 := hD.db
    have h2 := hD.s
    obtain ⟨t0, ts, x0, st, et, es, a2⟩ : ∃ t0 ts x0 st, L.ts = t0 :: ts ∧ D.stack = x0 :: st ∧ All2 (TxAt a.Transaction H) ts st := by
      have hx := hD.txs
      have ne := hD.ne
      generalize L.ts = l at hx ⊢
      generalize D.stack = m at hx ne ⊢
      cases hx with
      | nil => exact absurd rfl ne
      | cons r t => exact ⟨_, _, _, _, rfl, rfl, t⟩
    have a3 := a2.rev
    have ol : outerL D = sortT (heldL D.rows (numsR st)) := by unfold outerL; rw [es]; rfl
    refine ⟨_, (pss_one (ps_ret (pe_meth (pv 0) T.k_Database T.m_Database_held_by G_Database_held_by (hr.mono (by decide)) T.b_Database_held_by .nil pass0 (pa_cons (pe_lc (own := [("one", 1)]) rfl sc_Database_outer_records.nd (pi_list (pe_slice sl_list (pe_fld (pv 0) rfl) po_none (po_some (pe_un un_neg pe_int)))) (blkOk_by (own := [("one", 1)]) (N := ["self", "one"]) (sc := defScope s_Database_outer_records) (by decide +kernel)) (fun _ _ _ _ _ => (pg_name (i := 1) sc_Database_outer_records.nd rfl (Or.inl rfl))) (fun _ _ _ _ _ => (pts_one (pt_cmpR op_notN (pv 1) pe_non (nomark _)))) (fun _ _ _ _ _ => (pe_fldK (K := K) rfl (pv 1) rfl))) pa_nil)))), ?_⟩
    dsimp only [cxOf]
    walk_at "rd"
    intro p1 f1
    rw [et, cut_rv]
    have s1 : Same H (upd H p1 (.lst (rv tV ts))) := (Same.refl H).new f1
    refine ⟨_, rfl, ⟨_, SqL.of upd_same⟩, ?_⟩
    intro S hS
    have s2 : Same H (upd (upd H p1 (.lst (rv tV ts))) S (.lst [])) := s1.new hS
    have nS : p1 ≠ S := ne_of_none upd_same hS
    refine lc_list (xs := rv tV ts) (fun i H' => Kp (fun b => b = S) (upd H p1 (.lst (rv tV ts))) H' ∧ H' S = some (.lst (((st.reverse.take i).filterMap fun t => t.map (·.num)).map V.int))) ?_ ?_ ?_ ?_
    · exact ⟨Kp.refl.fresh hS, upd_same⟩
    · rintro i H' _ ⟨kp, _⟩
      exact SqL.of (kp _ _ upd_same nS)
    · rintro i v H' hv ⟨kp, hS'⟩
      have hv' : ts.reverse.map tV = rv tV ts := by unfold rv; rw [List.map_reverse]
      rw [← hv', List.getElem?_map] at hv
      cases e : ts.reverse[i]? with
      | none => rw [e] at hv; cases hv
      | some t =>
        rw [e] at hv
        cases hv
        obtain ⟨x, hx, hxt⟩ := a3.get e
        have hst := nums_step hx
        cases t with
        | none =>
          cases x with
          | some x => exact hxt.elim
          | none =>
            walk_at "rd"
            try refine ⟨kp, ?_⟩
            rw [hst]
            simpa using hS'
        | some t =>
          cases x with
          | none => exact hxt.elim
          | some x =>
            obtain ⟨j1, _, _⟩ := hxt
            have hl : (((st.reverse.take i).filterMap fun t => t.map (·.num)).map V.int).length < sizeLine := by
              rw [List.length_map, sizeLine_eq]
              have h1 := List.length_filterMap_le (fun t : Option Tx => t.map (·.num)) (st.reverse.take i)
              have h2 := hm.s
              rw [es, List.length_cons] at h2
              rw [List.length_take, List.length_reverse] at h1
              omega
            have j2 := kp _ _ (s1 _ _ j1) (ne_of_none (s1 _ _ j1) hS)
            walk_at "rd"
            try refine ⟨kp.set1, ?_⟩
            rw [hst, List.map_append]
            exact upd_same
    · rintro H' ⟨kp, hS'⟩
      rw [rv_len, a2.len, ← List.length_reverse, List.take_length] at hS'
      have sm : Same H H' := Kp.same s1 kp fun c e => e ▸ s1.free hS
      have hx1 := sm _ _ h1
      walk_at "rd"
      exact ⟨L, D, S, numsR st, rfl, SqL.of hS', hD.keep (fun b u _ e => sm b u e), hm, fun H2 q s2 hq nq => k H2 q (sm.trans s2) (ol ▸ hq) (sm.free nq)⟩
theorem cut_last {α : Type} {f : α → V} {x : α} {l : List α} : cutV (rv f (x :: l)) (some (-1)) none = [f x] := by
  rw [rv_cons]
  show List.take (HT.sIx (rv f l ++ [f x]).length (rv f l ++ [f x]).length none - HT.sIx (rv f l ++ [f x]).length 0 (some (-1))) (List.drop (HT.sIx (rv f l ++ [f x]).length 0 (some (-1))) (rv f l ++ [f x])) = [f x]
  have e1 : HT.sIx (rv f l ++ [f x]).length 0 (some (-1)) = (rv f l).length := by
    unfold HT.sIx
    rw [List.length_append, List.length_singleton]
    simp only
    rw [if_pos (by decide)]
    omega
  have e2 : HT.sIx (rv f l ++ [f x]).length (rv f l ++ [f x]).length none = (rv f l).length + 1 := by
    unfold HT.sIx
    rw [List.length_append, List.length_singleton]
  rw [e1, e2, List.drop_left]
  simp
theorem ok_Database_held_records (T : Txt K mg a d) : FnOk P w K mg base CX0 2 a.Database_held_records d.Database_held_records ["self"] (spRecs a ownL) := by
  have G_Database_held_by : FnOk P w K mg base CX0 1 a.Database_held_by d.Database_held_by ["self", "numbers"] (spHeldBy K a) := ok_Database_held_by T
  refine T.Database_held_records.ok sc_Database_held_records (fun vs H Q E h => ?_) (fun cdv A outer s H vs Q E hr h => ?_)
  · obtain ⟨L, D, rfl, _⟩ := h
    rfl
  · obtain ⟨L, D, rfl, hD, hm, k⟩ := h
    have c1 := T.k_Database
    have c2 := T.k_Transaction
    have n1 := T.na_Database_stack
    have n4 := T.na_Transaction_number
    have h1 := hD.db
    have h2 := hD.s
    obtain ⟨t0, ts, x0, st, et, es, r0⟩ : ∃ t0 ts x0 st, L.ts = t0 :: ts ∧ D.stack = x0 :: st ∧ TxAt a.Transaction H t0 x0 := by
      have hx := hD.txs
      have ne := hD.ne
      generalize L.ts = l at hx ⊢
      generalize D.stack = m at hx ne ⊢
      cases hx with
      | nil => exact absurd rfl ne
      | cons r t => exact ⟨_, _, _, _, rfl, rfl, r⟩
    have ol : ownL D = sortT (heldL D.rows (numsR [x0])) := by unfold ownL; rw [es]; rfl
    refine ⟨_, (pss_one (ps_ret (pe_meth (pv 0) T.k_Database T.m_Database_held_by G_Database_held_by (hr.mono (by decide)) T.b_Database_held_by .nil pass0 (pa_cons (pe_lc (own := [("one", 1)]) rfl sc_Database_held_records.nd (pi_list (pe_slice sl_list (pe_fld (pv 0) rfl) (po_some (pe_un un_neg pe_int)) po_none)) (blkOk_by (own := [("one", 1)]) (N := ["self", "one"]) (sc := defScope s_Database_held_records) (by decide +kernel)) (fun _ _ _ _ _ => (pg_name (i := 1) sc_Database_held_records.nd rfl (Or.inl rfl))) (fun _ _ _ _ _ => (pts_one (pt_cmpR op_notN (pv 1) pe_non (nomark _)))) (fun _ _ _ _ _ => (pe_fldK (K := K) rfl (pv 1) rfl))) pa_nil)))), ?_⟩
    dsimp only [cxOf]
    walk_at "rd"
    intro p1 f1
    rw [et, cut_last]
    have s1 : Same H (upd H p1 (.lst [tV t0])) := (Same.refl H).new f1
    refine ⟨_, rfl, ⟨_, SqL.of upd_same⟩, ?_⟩
    intro S hS
    have nS : p1 ≠ S := ne_of_none upd_same hS
    refine lc_list (xs := [tV t0]) (fun i H' => Kp (fun b => b = S) (upd H p1 (.lst [tV t0])) H' ∧ H' S = some (.lst ((([x0].take i).filterMap fun t => t.map (·.num)).map V.int))) ?_ ?_ ?_ ?_
    · exact ⟨Kp.refl.fresh hS, upd_same⟩
    · rintro i H' _ ⟨kp, _⟩
      exact SqL.of (kp _ _ upd_same nS)
    · rintro i v H' hv ⟨kp, hS'⟩
      cases i with
      | succ i => simp at hv
      | zero =>
        cases hv
        have hS'' : H' S = some (.lst []) := hS'
        cases t0 with
        | none =>
          cases x0 with
          | some x => exact r0.elim
          | none =>
            walk_at "rd"
            first
              | exact ⟨kp, hS'⟩
              | exact hS'
        | some t =>
          cases x0 with
          | none => exact r0.elim
          | some x =>
            obtain ⟨j1, _, _⟩ := r0
            have j2 := kp _ _ (s1 _ _ j1) (ne_of_none (s1 _ _ j1) hS)
            walk_at "rd"
            try refine ⟨kp.set1, ?_⟩
            exact upd_same
    · rintro H' ⟨kp, hS'⟩
      have sm : Same H H' := Kp.same s1 kp fun c e => e ▸ s1.free hS
      have hx1 := sm _ _ h1
      walk_at "rd"
      refine ⟨L, D, S, numsR [x0], rfl, SqL.of ?_, hD.keep (fun b u _ e => sm b u e), hm, fun H2 q s2 hq nq => k H2 q (sm.trans s2) (ol ▸ hq) (sm.free nq)⟩
      exact hS'
/-! ### writes -/
def spWrI (a : Ad) : Sp := fun vs H Q _ => ∃ (x dx : Addr) (r : Row), vs = [.ref x, .str r.rcd, r.val, .str r.fate, .int r.holder, .int r.level] ∧ H x = some (.ins a.Write dx []) ∧ Q .non (upd H x (.ins a.Write dx (rwF r)))
theorem upd_upd {H : Hp} {a : Addr} {o u : HO} : upd (upd H a o) a u = upd H a u := by
  funext b
  by_cases h : b = a
  · subst h
    rw [upd_same, upd_same]
  · rw [upd_ne h, upd_ne h, upd_ne h]
theorem ok_WriteU_initU (T : Txt K mg a d) : FnOk P w K mg base CX0 1 a.WriteU_initU d.WriteU_initU ["self", "record", "value", "fate", "holder", "level"] (spWrI a) := by
  refine T.WriteU_initU.ok sc_WriteU_initU (fun vs H Q E h => ?_) (fun cdv A outer s H vs Q E hr h => ?_)
  · obtain ⟨x, dx, r, rfl, _⟩ := h
    rfl
  · obtain ⟨x, dx, r, rfl, hx, k⟩ := h
    have c1 := T.k_Write
    have n1 := T.na_Write_record
    have n2 := T.na_Write_value
    have n3 := T.na_Write_fate
    have n4 := T.na_Write_holder
    have n5 := T.na_Write_level
    refine ⟨_, (pss_cons (ps_fld (pv 0) (pv 1) rfl)
  (pss_cons (ps_fld (pv 0) (pv 2) rfl)
  (pss_cons (ps_fld (pv 0) (pv 3) rfl)
  (pss_cons (ps_fld (pv 0) (pv 4) rfl)
  (pss_one (ps_fld (pv 0) (pv 5) rfl)))))), ?_⟩
    dsimp only [cxOf]
    walk_at "rd"
    rw [upd_upd, upd_upd, upd_upd, upd_upd]
    exact k
def spWait (a : Ad) : Sp := fun vs H Q _ => ∃ L D z, vs = [.ref L.db, .str z] ∧ DB a H L D ∧ Sm D ∧ ∀ H', Same H H' → Q (.bl (decide (z ∈ outerL D))) H'
theorem inV_strs {z : Str} {l : List Str} : inV (.str z) (l.map V.str) = decide (z ∈ l) := by
  unfold inV
  rw [List.any_map]
  induction l with
  | nil => rfl
  | cons n r ih =>
    rw [List.any_cons, ih]
    show ((n == z) || decide (z ∈ r)) = _
    by_cases h : n = z
    · subst h
      simp
    · have h' : ¬ z = n := fun q => h q.symm
      simp [h, h']
theorem flat_strs {l : List Str} : (l.map V.str).all flatV = true := by
  rw [List.all_map]
  exact List.all_eq_true.mpr fun _ _ => rfl
theorem ok_Database_would_wait (T : Txt K mg a d) : FnOk P w K mg base CX0 3 a.Database_would_wait d.Database_would_wait ["self", "record"] (spWait a) := by
  have G_Database_outer_records : FnOk P w K mg base CX0 2 a.Database_outer_records d.Database_outer_records ["self"] (spRecs a outerL) := ok_Database_outer_records T
  refine T.Database_would_wait.ok sc_Database_would_wait (fun vs H Q E h => ?_) (fun cdv A outer s H vs Q E hr h => ?_)
  · obtain ⟨L, D, z, rfl, _⟩ := h
    rfl
  · obtain ⟨L, D, z, rfl, hD, hm, k⟩ := h
    have h1 := hD.db
    refine ⟨_, (pss_one (ps_ret (pe_cmpR op_in_seq (pv 1) (pe_meth0 (pv 0) T.k_Database T.m_Database_outer_records G_Database_outer_records (hr.mono (by decide)) T.b_Database_outer_records .nil pass0) (by rfl)))), ?_⟩
    dsimp only [cxOf]
    walk_at "rd"
    refine ⟨L, D, rfl, hD, hm, fun H' q s' hq _ => ?_⟩
    refine ⟨q, _, rfl, .inl (SqL.of hq), rfl, flat_strs, ?_⟩
    rw [show (if false = true then !inV (V.str z) ((outerL D).map V.str) else inV (V.str z) ((outerL D).map V.str)) = inV (V.str z) ((outerL D).map V.str) from rfl, inV_strs]
    exact k H' s'
def addD (D : Db) (r : Row) : Db := { D with rows := D.rows ++ [r] }
def writeD (D : Db) (z : Str) (v : V) : Db × Option EK := match D.stack with
  | none :: _ => if z ∈ outerL D then (D, some (.waits z)) else (addD D ⟨z, v, "kept", -1, 0⟩, none)
  | some ⟨n, y :: rs⟩ :: _ => (match y with
    | some w => (D, some (.doomed w))
    | none => if z ∈ outerL D then (D, some (.waits z)) else (addD D ⟨z, v, "open", n, rs.length⟩, none))
  | _ => (D, none)
def spWrite (a : Ad) : Sp := fun vs H Q E => ∃ L D z v, vs = [.ref L.db, .str z, v] ∧ DB a H L D ∧ Sm D ∧ outE a (writeD D z v) H L Q E
theorem ok_Database_write (T : Txt K mg a d) : FnOk P w K mg base (L2.CX P w) 4 a.Database_write d.Database_write ["self", "record", "value"] (spWrite a) := by
  have G_Database_would_wait : FnOk P w K mg base CX0 3 a.Database_would_wait d.Database_would_wait ["self", "record"] (spWait a) := ok_Database_would_wait T
  have G_WriteU_initU : FnOk P w K mg base CX0 1 a.WriteU_initU d.WriteU_initU ["self", "record", "value", "fate", "holder", "level"] (spWrI a) := ok_WriteU_initU T
  refine T.Database_write.okX sc_Database_write (fun vs H Q E h => ?_) (fun cdv A outer s H vs Q E hr h => ?_)
  · obtain ⟨L, D, z, v, rfl, _⟩ := h
    rfl
  · obtain ⟨L, D, z, v, rfl, hD, hm, k⟩ := h
    have c1 := T.k_Database
    have c2 := T.k_Transaction
    have n1 := T.na_Database_stack
    have n2 := T.na_Database_rows
    have n3 := T.na_Transaction_reasons
    have n4 := T.na_Transaction_number
    have h1 := hD.db
    have h2 := hD.s
    have lr : (L.ws.map fun w => V.ref w.1).length < sizeLine := by
      rw [List.length_map, hD.rows.len, sizeLine_eq]
      have := hm.n
      omega
    refine ⟨_, (pss_cons (ps_set (i := 3) sc_Database_write.nd rfl (Or.inl rfl) (pe_ix ix_list (pe_fld (pv 0) rfl) (pe_un un_neg pe_int) (fun _ _ => rfl)))
  (pss_cons (ps_if (PW.pt (pw_and (pt_cmpR op_notN (pv 3) pe_non (nomark _)) (pw_and1 (pt_cmpR op_notN (pe_ix ix_list (pe_fld (pv 3) rfl) (pe_un un_neg pe_int) (fun _ _ => rfl)) pe_non (nomark _))))) (pss_one (ps_raise rfl (takes_of rfl rfl rfl rfl) (pmk_err T.e_Doomed T.g_Doomed T.n_super hr (pa_cons (pe_ix ix_list (pe_fld (pv 3) rfl) (pe_un un_neg pe_int) (fun _ _ => rfl)) pa_nil)))) pss_nil)
  (pss_cons (ps_if (pt_val (pe_meth (pv 0) T.k_Database T.m_Database_would_wait G_Database_would_wait (hr.mono (by decide)) T.b_Database_would_wait .nil pass0 (pa_cons (pv 1) pa_nil))) (pss_one (ps_raise rfl (takes_of rfl rfl rfl rfl) (pmk_err T.e_Waits T.g_Waits T.n_super hr (pa_cons (pv 1) pa_nil)))) pss_nil)
  (pss_one (ps_if (pt_cmpR op_isN (pv 3) pe_non (nomark _)) (pss_one (ps_expr (pe_bm PySem.F.plainAttrs_list PySem.F.slot_list_append PySem.F.type_list_append mt_append (pe_fld (pv 0) rfl) (pa_cons (pe_make T.mk_Write G_WriteU_initU (hr.mono (by decide)) (by rfl) T.g_Write T.b_WriteU_initU .nil pass0 (pa_cons (pv 1) (pa_cons (pv 2) (pa_cons pe_str (pa_cons (pe_un un_neg pe_int) (pa_cons pe_int pa_nil)))))) pa_nil)))) (pss_one (ps_expr (pe_bm PySem.F.plainAttrs_list PySem.F.slot_list_append PySem.F.type_list_append mt_append (pe_fld (pv 0) rfl) (pa_cons (pe_make T.mk_Write G_WriteU_initU (hr.mono (by decide)) (by rfl) T.g_Write T.b_WriteU_initU .nil pass0 (pa_cons (pv 1) (pa_cons (pv 2) (pa_cons pe_str (pa_cons (pe_fld (pv 3) rfl) (pa_cons (pe_op op_sub (pe_callB call_len_seq (by rfl) T.n_len PySem.boot_len (pa_cons (pe_fld (pv 3) rfl) pa_nil)) pe_int) pa_nil)))))) pa_nil))))))))), ?_⟩
    dsimp only [cxOf]
    unfold writeD at k
    -- the row made
    have mk : ∀ (r : Row) {H1 : Hp}, Same H H1 → outE a (addD D r, none) H L Q E → ∀ x dx, H1 x = none → H1 dx = none → dx ≠ x → Q .non (upd (upd (upd (upd H1 dx (HO.own x)) x (HO.ins a.Write dx [])) x (HO.ins a.Write dx (rwF r))) L.r (.lst ((L.ws.map fun w => V.ref w.1) ++ [.ref x]))) := fun r H1 s1 k x dx hx hdx nx => by
      have s2 : Same H (upd (upd (upd H1 dx (HO.own x)) x (HO.ins a.Write dx [])) x (HO.ins a.Write dx (rwF r))) := ((s1.new hdx).frsh (s1.free hx)).frsh (s1.free hx)
      have hD2 : DB a _ L D := hD.keep fun b u _ e => s2 b u e
      have hD3 := hD2.addRow (w := (x, dx)) (x := r) upd_same (hD.fresh (s1.free hx))
      have f3 := Fr.addRow (L := L) (w := (x, dx)) (o := .lst ((L.ws ++ [(x, dx)]).map fun w => .ref w.1)) (.of_same s2) (s1.free hx)
      have z := k _ _ hD3 f3
      rw [List.map_append] at z
      exact z
    rcases hD.top with ⟨ts, st, et, es⟩ | ⟨t, ts, x, st, y, rs, et, es, ex, h4, h5⟩
    · rw [es] at k
      rw [et] at h2
      have e1 := rv_at (f := tV) (x := none) (l := ts)
      walk_at "rd"
      refine ⟨L, D, z, rfl, hD, hm, fun H1 s1 => ?_⟩
      have hD1 : DB a H1 L D := hD.keep fun b u _ e => s1 b u e
      have j1 := hD1.db
      have j2 := hD1.r
      by_cases b1 : z ∈ outerL D
      · rw [if_pos b1] at k
        rw [decide_eq_true b1]
        walk_at "rd"
        exact k H1 L hD1 (Fr.same s1)
      · rw [if_neg b1] at k
        rw [decide_eq_false b1]
        walk_at "rd"
        intro x dx hx hdx nx
        refine ⟨x, dx, ⟨z, v, "kept", -1, 0⟩, rfl, upd_same, rfl, ?_⟩
        have q1 : upd (upd (upd H1 dx (HO.own x)) x (HO.ins a.Write dx [])) x (HO.ins a.Write dx (rwF ⟨z, v, "kept", -1, 0⟩)) L.r = some (.lst (L.ws.map fun w => .ref w.1)) := upd_oth (ne_of_none j2 hx) (upd_oth (ne_of_none j2 hx) (upd_old j2 hdx))
        refine ⟨L.r, _, _, rfl, rfl, q1, lr, mk _ s1 k x dx hx hdx nx⟩
    · obtain ⟨n, rs0⟩ := x
      dsimp only at ex
      subst ex
      rw [es] at k
      rw [et] at h2
      have e1 := rv_at (f := tV) (x := some t) (l := ts)
      have e2 := rv_at (f := oV) (x := y) (l := rs)
      cases y with
      | some y =>
        walk_at "rd"
        exact k H L hD Fr.refl
      | none =>
        walk_at "rd"
        refine ⟨L, D, z, rfl, hD, hm, fun H1 s1 => ?_⟩
        have hD1 : DB a H1 L D := hD.keep fun b u _ e => s1 b u e
        have j1 := hD1.db
        have j2 := hD1.r
        have j4 := s1 _ _ h4
        have j5 := s1 _ _ h5
        dsimp only at k
        by_cases b1 : z ∈ outerL D
        · rw [if_pos b1] at k
          rw [decide_eq_true b1]
          walk_at "rd"
          exact k H1 L hD1 (Fr.same s1)
        · rw [if_neg b1] at k
          rw [decide_eq_false b1]
          walk_at "rd"
          rw [rv_len]
          intro x dx hx hdx nx
          have el : ((none :: rs : List (Option Str)).length : Int) - 1 = (rs.length : Int) := by rw [List.length_cons]; omega
          refine ⟨x, dx, ⟨z, v, "open", n, rs.length⟩, ?_, upd_same, rfl, ?_⟩
          · show _ = [V.ref x, V.str z, v, V.str "open", V.int n, V.int (rs.length : Int)]
            rw [← el]; rfl
          have q1 : upd (upd (upd H1 dx (HO.own x)) x (HO.ins a.Write dx [])) x (HO.ins a.Write dx (rwF ⟨z, v, "open", n, rs.length⟩)) L.r = some (.lst (L.ws.map fun w => .ref w.1)) := upd_oth (ne_of_none j2 hx) (upd_oth (ne_of_none j2 hx) (upd_old j2 hdx))
          refine ⟨L.r, _, _, rfl, rfl, q1, lr, mk _ s1 k x dx hx hdx nx⟩
def setV (D : Db) (u v : V) : Db × Option EK := if wordB u = true then (match u with
  | .str z => writeD D z v
  | _ => (D, none)) else (D, some (.badword u))
theorem setV_word {D : Db} {z : Str} {v : V} (h : IsWord z) : setV D (.str z) v = writeD D z v := by
  unfold setV
  rw [if_pos (show wordB (.str z) = true from h.ok)]
def spSet (a : Ad) : Sp := fun vs H Q E => ∃ L D u v, vs = [.ref L.db, u, v] ∧ Thing H u ∧ DB a H L D ∧ Sm D ∧ outE a (setV D u v) H L Q E
theorem ok_DatabaseU_setitemU (T : Txt K mg a d) : FnOk P w K mg base (L2.CX P w) 5 a.DatabaseU_setitemU d.DatabaseU_setitemU ["self", "record", "value"] (spSet a) := by
  have G_is_word : FnOk P w K mg base CX0 1 a.is_word d.is_word ["thing"] spIsWord := ok_is_word T
  have G_Database_write : FnOk P w K mg base (L2.CX P w) 4 a.Database_write d.Database_write ["self", "record", "value"] (spWrite a) := ok_Database_write T
  refine T.DatabaseU_setitemU.okX sc_DatabaseU_setitemU (fun vs H Q E h => ?_) (fun cdv A outer s H vs Q E hr h => ?_)
  · obtain ⟨L, D, u, v, rfl, _⟩ := h
    rfl
  · obtain ⟨L, D, u, v, rfl, tu, hD, hm, k⟩ := h
    have h1 := hD.db
    refine ⟨_, (pss_cons (ps_if (pt_not (pt_val (pe_call G_is_word (hr.mono (by decide)) (by rfl) T.g_is_word T.is_word.kp T.b_is_word .nil pass0 (pa_cons (pv 1) pa_nil)))) (pss_one (ps_raise rfl (takes_of rfl rfl rfl rfl) (pmk_err T.e_BadWord T.g_BadWord T.n_super hr (pa_cons (pv 1) pa_nil)))) pss_nil)
  (pss_one (ps_expr (pe_meth (pv 0) T.k_Database T.m_Database_write G_Database_write (hr.mono (by decide)) T.b_Database_write .nil (passes_call (takes_of rfl rfl rfl rfl) (fun _ _ _ _ h => h)) (pa_cons (pv 1) (pa_cons (pv 2) pa_nil)))))), ?_⟩
    try dsimp only [cxOf]
    walk_at "rd"
    unfold setV at k
    cases bz : wordB u with
    | false =>
      rw [bz] at k
      refine iteT ?_
      walk_at "rd"
      exact k H L hD Fr.refl
    | true =>
      rw [bz, if_pos rfl] at k
      refine iteF ?_
      obtain ⟨z, rfl⟩ : ∃ z, u = .str z := by
        cases u <;> first | exact ⟨_, rfl⟩ | cases bz
      walk_at "rd"
      exact ⟨L, D, z, v, rfl, hD, hm, k⟩
/-! ### properties -/
def openD (D : Db) : Bool := match D.stack with
  | some _ :: _ => true
  | _ => false
def reasonD (D : Db) : Option Str := match D.stack with
  | some ⟨_, y :: _⟩ :: _ => y
  | _ => none
def levelsD (D : Db) : Nat := match D.stack with
  | some x :: _ => x.rs.length
  | _ => 0
def spProp (a : Ad) (f : Db → V) : Sp := fun vs H Q _ => ∃ L D, vs = [.ref L.db] ∧ DB a H L D ∧ Sm D ∧ Q (f D) H
theorem ok_Database_is_open (T : Txt K mg a d) : FnOk P w K mg base CX0 1 a.Database_is_open d.Database_is_open ["self"] (spProp a fun D => .bl (openD D)) := by
  refine T.Database_is_open.ok sc_Database_is_open (fun vs H Q E h => ?_) (fun cdv A outer s H vs Q E hr h => ?_)
  · obtain ⟨L, D, rfl, _⟩ := h
    rfl
  · obtain ⟨L, D, rfl, hD, hm, k⟩ := h
    have c1 := T.k_Database
    have n1 := T.na_Database_stack
    have h1 := hD.db
    have h2 := hD.s
    refine ⟨_, (pss_one (ps_ret (pe_cmpR op_notN (pe_ix ix_list (pe_fld (pv 0) rfl) (pe_un un_neg pe_int) (fun _ _ => rfl)) pe_non (nomark _)))), ?_⟩
    dsimp only [cxOf]
    unfold openD at k
    dsimp only at k
    rcases hD.top with ⟨ts, st, et, es⟩ | ⟨t, ts, x, st, y, rs, et, es, ex, h4, h5⟩
    · rw [es] at k
      rw [et] at h2
      have e1 := rv_at (f := tV) (x := none) (l := ts)
      walk_at "rd"
      exact k
    · rw [es] at k
      rw [et] at h2
      have e1 := rv_at (f := tV) (x := some t) (l := ts)
      walk_at "rd"
      exact k
theorem ok_Database_is_doomed (T : Txt K mg a d) : FnOk P w K mg base CX0 1 a.Database_is_doomed d.Database_is_doomed ["self"] (spProp a fun D => .bl (reasonD D).isSome) := by
  refine T.Database_is_doomed.ok sc_Database_is_doomed (fun vs H Q E h => ?_) (fun cdv A outer s H vs Q E hr h => ?_)
  · obtain ⟨L, D, rfl, _⟩ := h
    rfl
  · obtain ⟨L, D, rfl, hD, hm, k⟩ := h
    have c1 := T.k_Database
    have c2 := T.k_Transaction
    have n1 := T.na_Database_stack
    have n3 := T.na_Transaction_reasons
    have h1 := hD.db
    have h2 := hD.s
    refine ⟨_, (pss_one (ps_ret (pe_and (pe_cmpR op_notN (pe_ix ix_list (pe_fld (pv 0) rfl) (pe_un un_neg pe_int) (fun _ _ => rfl)) pe_non (nomark _)) (pe_one (pe_cmpR op_notN (pe_ix ix_list (pe_fld (pe_ix ix_list (pe_fld (pv 0) rfl) (pe_un un_neg pe_int) (fun _ _ => rfl)) rfl) (pe_un un_neg pe_int) (fun _ _ => rfl)) pe_non (nomark _)))))), ?_⟩
    dsimp only [cxOf]
    unfold reasonD at k
    dsimp only at k
    rcases hD.top with ⟨ts, st, et, es⟩ | ⟨t, ts, x, st, y, rs, et, es, ex, h4, h5⟩
    · rw [es] at k
      rw [et] at h2
      have e1 := rv_at (f := tV) (x := none) (l := ts)
      walk_at "rd"
      exact iteF k
    · obtain ⟨n, rs0⟩ := x
      dsimp only at ex
      subst ex
      rw [es] at k
      rw [et] at h2
      have e1 := rv_at (f := tV) (x := some t) (l := ts)
      have e2 := rv_at (f := oV) (x := y) (l := rs)
      walk_at "rd"
      cases y <;> exact k
theorem ok_Database_reason (T : Txt K mg a d) : FnOk P w K mg base CX0 1 a.Database_reason d.Database_reason ["self"] (spProp a fun D => oV (reasonD D)) := by
  refine T.Database_reason.ok sc_Database_reason (fun vs H Q E h => ?_) (fun cdv A outer s H vs Q E hr h => ?_)
  · obtain ⟨L, D, rfl, _⟩ := h
    rfl
  · obtain ⟨L, D, rfl, hD, hm, k⟩ := h
    have c1 := T.k_Database
    have c2 := T.k_Transaction
    have n1 := T.na_Database_stack
    have n3 := T.na_Transaction_reasons
    have h1 := hD.db
    have h2 := hD.s
    refine ⟨_, (pss_one (ps_ret (pe_ifExp (pt_cmpR op_isN (pe_ix ix_list (pe_fld (pv 0) rfl) (pe_un un_neg pe_int) (fun _ _ => rfl)) pe_non (nomark _)) pe_non (pe_ix ix_list (pe_fld (pe_ix ix_list (pe_fld (pv 0) rfl) (pe_un un_neg pe_int) (fun _ _ => rfl)) rfl) (pe_un un_neg pe_int) (fun _ _ => rfl))))), ?_⟩
    dsimp only [cxOf]
    unfold reasonD at k
    dsimp only at k
    rcases hD.top with ⟨ts, st, et, es⟩ | ⟨t, ts, x, st, y, rs, et, es, ex, h4, h5⟩
    · rw [es] at k
      rw [et] at h2
      have e1 := rv_at (f := tV) (x := none) (l := ts)
      walk_at "rd"
      exact iteT k
    · obtain ⟨n, rs0⟩ := x
      dsimp only at ex
      subst ex
      rw [es] at k
      rw [et] at h2
      have e1 := rv_at (f := tV) (x := some t) (l := ts)
      have e2 := rv_at (f := oV) (x := y) (l := rs)
      walk_at "rd"
      exact k
theorem ok_Database_levels (T : Txt K mg a d) : FnOk P w K mg base CX0 1 a.Database_levels d.Database_levels ["self"] (spProp a fun D => .int (levelsD D : Int)) := by
  refine T.Database_levels.ok sc_Database_levels (fun vs H Q E h => ?_) (fun cdv A outer s H vs Q E hr h => ?_)
  · obtain ⟨L, D, rfl, _⟩ := h
    rfl
  · obtain ⟨L, D, rfl, hD, hm, k⟩ := h
    have c1 := T.k_Database
    have c2 := T.k_Transaction
    have n1 := T.na_Database_stack
    have n3 := T.na_Transaction_reasons
    have h1 := hD.db
    have h2 := hD.s
    refine ⟨_, (pss_one (ps_ret (pe_ifExp (pt_cmpR op_isN (pe_ix ix_list (pe_fld (pv 0) rfl) (pe_un un_neg pe_int) (fun _ _ => rfl)) pe_non (nomark _)) pe_int (pe_callB call_len_seq (by rfl) T.n_len PySem.boot_len (pa_cons (pe_fld (pe_ix ix_list (pe_fld (pv 0) rfl) (pe_un un_neg pe_int) (fun _ _ => rfl)) rfl) pa_nil))))), ?_⟩
    dsimp only [cxOf]
    unfold levelsD at k
    dsimp only at k
    rcases hD.top with ⟨ts, st, et, es⟩ | ⟨t, ts, x, st, y, rs, et, es, ex, h4, h5⟩
    · rw [es] at k
      rw [et] at h2
      have e1 := rv_at (f := tV) (x := none) (l := ts)
      walk_at "rd"
      exact iteT k
    · obtain ⟨n, rs0⟩ := x
      dsimp only at ex
      subst ex
      rw [es] at k
      rw [et] at h2
      have e1 := rv_at (f := tV) (x := some t) (l := ts)
      walk_at "rd"
      rw [rv_len]
      exact k
theorem ok_Database_depth (T : Txt K mg a d) : FnOk P w K mg base CX0 1 a.Database_depth d.Database_depth ["self"] (spProp a fun D => .int (D.entered.length : Int)) := by
  refine T.Database_depth.ok sc_Database_depth (fun vs H Q E h => ?_) (fun cdv A outer s H vs Q E hr h => ?_)
  · obtain ⟨L, D, rfl, _⟩ := h
    rfl
  · obtain ⟨L, D, rfl, hD, hm, k⟩ := h
    have c1 := T.k_Database
    have n1 := T.na_Database_entered
    have h1 := hD.db
    have h2 := hD.e
    refine ⟨_, (pss_one (ps_ret (pe_callB call_len_seq (by rfl) T.n_len PySem.boot_len (pa_cons (pe_fld (pv 0) rfl) pa_nil)))), ?_⟩
    dsimp only [cxOf]
    walk_at "rd"
    rw [rv_len]
    exact k
/-! ### fates -/
theorem All2.app {α β : Type} {R : α → β → Prop} {l l' : List α} {m m' : List β} (a : All2 R l m) (b : All2 R l' m') : All2 R (l ++ l') (m ++ m') := by
  induction a with
  | nil => exact b
  | cons r _ ih => exact .cons r ih
def TupAt (H : Hp) (t : Addr) (r : Row) : Prop := H t = some (.tup [.str r.rcd, r.val, .str r.fate])
def spFates (a : Ad) : SpG := fun vs H Q _ => ∃ L D, vs = [.ref L.db] ∧ DB a H L D ∧ Sm D ∧ ∀ H' ts, Same H H' → All2 (TupAt H') ts D.rows → Q (ts.map V.ref) H'
theorem ok_Database_fates (T : Txt K mg a d) : GFn P w K mg base 1 a.Database_fates d.Database_fates ["self"] (spFates a) := by
  refine fun_gen T.Database_fates sc_Database_fates (fun vs H Q E h => ?_) (fun cdv A outer s H vs Q E pn hr h => ?_)
  · obtain ⟨L, D, rfl, _⟩ := h
    rfl
  · obtain ⟨L, D, rfl, hD, hm, k⟩ := h
    have c1 := T.k_Database
    have c3 := T.k_Write
    have n2 := T.na_Database_rows
    have h1 := hD.db
    have h2 := hD.r
    refine ⟨_, (gss_cons (gs_for owns_gcx rfl (pi_list (pe_fld (pv 0) rfl)) (pg_name (i := 1) sc_Database_fates.nd rfl (Or.inl rfl)) (gss_cons (gs_yield (pe_tup (pa_cons (pe_fld (pv 1) rfl) (pa_cons (pe_fld (pv 1) rfl) (pa_cons (pe_fld (pv 1) rfl) pa_nil))))) gss_nil)) gss_nil), ?_⟩
    dsimp only [gcxOf, cxOf]
    have n5 := T.na_Write_fate
    have n7 := T.na_Write_record
    have n8 := T.na_Write_value
    walk_at "rd"
    refine ⟨⟨_, SqL.of h2⟩, ?_⟩
    have hlw : L.ws.length = D.rows.length := hD.rows.len
    refine gfor_list (xs := L.ws.map fun w => V.ref w.1) (fun i ys σ H' => ∃ ts v, Same H H' ∧ All2 (TupAt H') ts (D.rows.take i) ∧ ys = ts.map V.ref ∧ σ = [some (.ref L.db), v]) ?_ ?_ ?_ ?_
    · exact ⟨[], none, Same.refl H, .nil, rfl, rfl⟩
    · rintro i ys σ H' _ ⟨ts, v, s1, _, _, _⟩
      exact SqL.of (s1 _ _ h2)
    · rintro i x ys σ H' hv ⟨ts, v, s1, ha, rfl, rfl⟩
      obtain ⟨w', hw, rfl⟩ := map_ref hv
      obtain ⟨r, hr, hxw⟩ := hD.rows.get hw
      have hxw : H w'.1 = some (.ins a.Write w'.2 (rwF r)) := hxw
      have hx' := s1 _ _ hxw
      have hl : ts.length ≤ 4000 := by
        rw [ha.len, List.length_take]
        have := hm.n
        omega
      refine ⟨by rw [List.length_map, sizeLine_eq]; omega, ?_⟩
      walk_at "rd"
      intro t ht
      refine ⟨ts ++ [t], _, s1.new ht, ?_, ?_, rfl⟩
      · rw [List.take_add_one, hr]
        refine All2.app (ha.imp fun x y _ z => upd_old z ht) (.cons upd_same .nil)
      · rw [List.map_append]; rfl
    · rintro ys σ H' ⟨ts, v, s1, ha, rfl, _⟩
      rw [List.length_map, hlw, List.take_length] at ha
      exact k H' ts s1 ha
/-! ### a database in good order -/
theorem Wf.lenG {es : List Str} {st : List (Option Tx)} (h : Wf es st) : st.length ≤ es.length + 1 ∧ ∀ x, some x ∈ st → x.rs.length ≤ es.length ∧ x.rs ≠ [] := by
  induction h with
  | nil => exact ⟨by simp, fun x m => by simp at m⟩
  | plain h ih =>
    obtain ⟨i1, i2⟩ := ih
    simp only [List.length_cons] at *
    exact ⟨by omega, fun x m => ⟨Nat.le_succ_of_le (i2 x m).1, (i2 x m).2⟩⟩
  | base h ih =>
    obtain ⟨i1, i2⟩ := ih
    simp only [List.length_cons] at *
    refine ⟨by omega, fun x m => ?_⟩
    rcases List.mem_cons.mp m with m | m
    · cases m
      exact ⟨by simp, by simp⟩
    · exact ⟨Nat.le_succ_of_le (i2 x m).1, (i2 x m).2⟩
  | level h ih =>
    obtain ⟨i1, i2⟩ := ih
    simp only [List.length_cons] at *
    refine ⟨by omega, fun x m => ?_⟩
    rcases List.mem_cons.mp m with m | m
    · cases m
      have := (i2 _ List.mem_cons_self).1
      simp only [List.length_cons] at *
      exact ⟨by omega, by simp⟩
    · have := i2 x (List.mem_cons_of_mem _ m)
      exact ⟨Nat.le_succ_of_le this.1, this.2⟩
  | joined h ih =>
    obtain ⟨i1, i2⟩ := ih
    simp only [List.length_cons] at *
    exact ⟨by omega, fun x m => ⟨Nat.le_succ_of_le (i2 x m).1, (i2 x m).2⟩⟩
  | outside h ih =>
    obtain ⟨i1, i2⟩ := ih
    simp only [List.length_cons] at *
    refine ⟨by omega, fun x m => ?_⟩
    rcases List.mem_cons.mp m with m | m
    · cases m
    · exact ⟨Nat.le_succ_of_le (i2 x m).1, (i2 x m).2⟩
theorem Wf.topG {es : List Str} {st : List (Option Tx)} {n : Int} {y z : Option Str} {rs : List (Option Str)} (h : Wf es (some ⟨n, y :: rs⟩ :: st)) : Wf es (some ⟨n, z :: rs⟩ :: st) := by
  generalize e : (some ⟨n, y :: rs⟩ :: st : List (Option Tx)) = q at h
  induction h with
  | nil => cases e
  | plain h ih => cases e
  | base h ih =>
    cases e
    exact .base h
  | level h ih =>
    cases e
    exact .level h
  | joined h ih =>
    cases e
    exact .joined (ih rfl)
  | outside h ih => cases e
def RdOk (r : Row) : Prop := IsWord r.rcd ∧ (∃ i : Int, r.val = .int i ∧ i.natAbs < 2 ^ 120) ∧ (r.fate = "open" ∨ r.fate = "kept" ∨ r.fate = "undone")
structure Gd (D : Db) (m : Nat) : Prop where
  wf : Wf D.entered D.stack
  fl : 0 ≤ D.floor
  e : D.entered.length ≤ m
  w : ∀ x, some x ∈ D.stack → ∀ z, some z ∈ x.rs → IsWord z
  rd : ∀ r ∈ D.rows, RdOk r
  r : D.rows.length ≤ m
section
variable {D : Db} {m : Nat}
theorem Gd.sm (g : Gd D m) (h : m ≤ 3000) : Sm D := by
  have := g.e
  have := g.r
  obtain ⟨h1, h2⟩ := g.wf.lenG
  exact ⟨by omega, by omega, fun x m => by have := (h2 x m).1; omega, by omega⟩
theorem Gd.up {k : Nat} (g : Gd D m) (h : m ≤ k) : Gd D k := { g with e := Nat.le_trans g.e h, r := Nat.le_trans g.r h }
theorem gd_new : Gd ⟨[], [none], [], 0, 0⟩ 0 := ⟨.nil, Int.le_refl 0, Nat.le_refl 0, (fun x h => by simp at h), (fun r h => nomatch h), Nat.le_refl 0⟩
theorem Gd.plain (g : Gd D m) {z : Str} (h : Wf (z :: D.entered) D.stack) : Gd (plainD D z) (m + 1) :=
  ⟨h, g.fl, Nat.succ_le_succ g.e, g.w, g.rd, Nat.le_succ_of_le g.r⟩
theorem Gd.begin (g : Gd D m) : Gd (beginD D) (m + 1) := by
  refine ⟨.base g.wf, g.fl, Nat.succ_le_succ g.e, fun x hx z hz => ?_, g.rd, Nat.le_succ_of_le g.r⟩
  rcases List.mem_cons.mp hx with e | e
  · cases e
    simp at hz
  · exact g.w x e z hz
theorem Gd.top (g : Gd D m) : (∃ st, D.stack = none :: st) ∨ ∃ k y rs st, D.stack = some ⟨k, y :: rs⟩ :: st := by
  have ne := g.wf.ne
  have l2 := g.wf.lenG.2
  generalize D.stack = s at ne l2
  cases s with
  | nil => exact absurd rfl ne
  | cons t st =>
    cases t with
    | none => exact .inl ⟨st, rfl⟩
    | some x =>
      obtain ⟨k, rs⟩ := x
      cases rs with
      | nil => exact absurd rfl (l2 _ List.mem_cons_self).2
      | cons y rs => exact .inr ⟨k, y, rs, st, rfl⟩
theorem Gd.enter (g : Gd D m) (v : V) : Gd (enterV D v).1 (m + 1) := by
  unfold enterV
  by_cases c : modeB v = true
  · rw [if_pos c]
    cases v with
    | str s =>
      dsimp only
      unfold enterD
      rcases g.top with ⟨st, e⟩ | ⟨k, y, rs, st, e⟩
      · rw [e]
        dsimp only
        unfold aloneD
        by_cases c1 : decide (V.str s = V.str "must") = true
        · rw [if_pos c1]; exact g.up (Nat.le_succ _)
        rw [if_neg c1]
        by_cases c2 : inV (.str s) [.str "either", .str "never", .str "outside"] = true
        · rw [if_pos c2]
          exact g.plain (by have := g.wf; rw [e] at this ⊢; exact .plain this)
        rw [if_neg c2]
        exact g.begin
      · rw [e]
        dsimp only
        unfold lvlD
        have wf := g.wf
        rw [e] at wf
        have gw := g.w
        rw [e] at gw
        by_cases c1 : inV (.str s) [.str "never", .str "alone"] = true
        · rw [if_pos c1]; exact g.up (Nat.le_succ _)
        rw [if_neg c1]
        by_cases c2 : decide (V.str s = V.str "inner") = true
        · rw [if_pos c2]
          cases y with
          | some z => exact g.up (Nat.le_succ _)
          | none =>
            refine ⟨.level wf, g.fl, Nat.succ_le_succ g.e, fun x hx z hz => ?_, g.rd, Nat.le_succ_of_le g.r⟩
            rcases List.mem_cons.mp hx with q | q
            · cases q
              refine gw ⟨k, none :: rs⟩ List.mem_cons_self z ?_
              rcases List.mem_cons.mp hz with q | q
              · cases q
              · exact q
            · exact gw x (List.mem_cons_of_mem _ q) z hz
        rw [if_neg c2]
        by_cases c3 : decide (V.str s = V.str "apart") = true
        · rw [if_pos c3]; exact g.begin
        rw [if_neg c3]
        by_cases c4 : decide (V.str s = V.str "outside") = true
        · rw [if_pos c4]
          refine ⟨?_, g.fl, Nat.succ_le_succ g.e, fun x hx z hz => ?_, g.rd, Nat.le_succ_of_le g.r⟩
          · show Wf ("outside" :: D.entered) (none :: D.stack)
            rw [e]; exact .outside wf
          · rcases List.mem_cons.mp hx with q | q
            · cases q
            · exact g.w x q z hz
        rw [if_neg c4]
        exact g.plain (by rw [e]; exact .joined wf)
    | _ => exact g.up (Nat.le_succ _)
  · rw [if_neg c]; exact g.up (Nat.le_succ _)
theorem Gd.doom (g : Gd D m) {z : Str} (h : IsWord z) : Gd (doomD D z) m := by
  unfold doomD
  rcases g.top with ⟨st, e⟩ | ⟨k, y, rs, st, e⟩
  · rw [e]; exact g
  · have wf := g.wf
    have gw := g.w
    rw [e] at wf gw ⊢
    cases y with
    | some y => exact g
    | none =>
      refine ⟨wf.topG, g.fl, g.e, fun x hx z' hz => ?_, g.rd, g.r⟩
      rcases List.mem_cons.mp hx with q | q
      · cases q
        rcases List.mem_cons.mp hz with q | q
        · cases q; exact h
        · exact gw ⟨k, none :: rs⟩ List.mem_cons_self z' (List.mem_cons_of_mem _ q)
      · exact gw x (List.mem_cons_of_mem _ q) z' hz
theorem RdOk.lvl {n t : Int} {ok : Bool} {r : Row} (h : RdOk r) : RdOk (endLRow n t ok r) := by
  unfold endLRow
  split
  · split
    · exact h
    · exact ⟨h.1, h.2.1, .inr (.inr rfl)⟩
  · exact h
theorem RdOk.tx {n : Int} {c : Bool} {r : Row} (h : RdOk r) : RdOk (endTRow n (if c = true then "kept" else "undone") r) := by
  unfold endTRow
  split
  · exact ⟨h.1, h.2.1, by cases c; exact .inr (.inr rfl); exact .inr (.inl rfl)⟩
  · exact h
theorem Gd.leave (g : Gd D m) {err : Option Str} {c : Bool} (h : ∀ z, err = some z → IsWord z) : Gd (leaveD D err c).1 m := by
  unfold leaveD
  split
  · exact g
  unfold leaveW
  cases hent : D.entered with
  | nil => exact g
  | cons e es =>
    dsimp only
    have wf := g.wf
    have gw := g.w
    have ge := g.e
    rw [hent] at wf ge
    have ge2 : es.length ≤ m := Nat.le_of_succ_le ge
    clear ge
    generalize est : D.stack = stk at wf gw
    cases wf with
    | plain w =>
      rw [if_neg (by decide +kernel), if_neg (by decide +kernel), if_neg (by decide +kernel), if_neg (by decide +kernel)]
      exact ⟨w, g.fl, ge2, gw, g.rd, g.r⟩
    | outside w =>
      rw [if_pos rfl]
      exact ⟨w, g.fl, ge2, fun x hx => gw x (List.mem_cons_of_mem _ hx), g.rd, g.r⟩
    | joined w =>
      rw [if_neg (by decide +kernel), if_pos rfl]
      have g' : Gd ⟨D.rows, _, es, D.floor, D.opened⟩ m := ⟨w, g.fl, ge2, gw, g.rd, g.r⟩
      cases err with
      | none => exact g'
      | some z =>
        exact g'.doom (h z rfl)
    | @level _ st n y z rs w =>
      rw [if_neg (by decide +kernel), if_neg (by decide +kernel), if_pos rfl]
      unfold endLD
      dsimp only
      refine ⟨w, g.fl, ge2, fun x hx z' hz => ?_, fun r hr => ?_, ?_⟩
      · rcases List.mem_cons.mp hx with q | q
        · cases q
          exact gw ⟨n, y :: z :: rs⟩ List.mem_cons_self z' (List.mem_cons_of_mem _ hz)
        · exact gw x (List.mem_cons_of_mem _ q) z' hz
      · obtain ⟨r0, h0, rfl⟩ := List.mem_map.mp hr
        exact (g.rd r0 h0).lvl
      · show (D.rows.map _).length ≤ m
        rw [List.length_map]; exact g.r
    | @base _ st n y w =>
      rw [if_neg (by decide +kernel), if_neg (by decide +kernel), if_neg (by decide +kernel), if_pos rfl]
      unfold endTD
      dsimp only
      refine ⟨w, g.fl, ge2, fun x hx => gw x (List.mem_cons_of_mem _ hx), fun r hr => ?_, ?_⟩
      · obtain ⟨r0, h0, rfl⟩ := List.mem_map.mp hr
        exact (g.rd r0 h0).tx
      · show (D.rows.map _).length ≤ m
        rw [List.length_map]; exact g.r
theorem Gd.add (g : Gd D m) {r : Row} (h : RdOk r) : Gd (addD D r) (m + 1) := by
  refine ⟨g.wf, g.fl, Nat.le_succ_of_le g.e, g.w, fun x hx => ?_, ?_⟩
  · rcases List.mem_append.mp hx with q | q
    · exact g.rd x q
    · exact List.mem_singleton.mp q ▸ h
  · show (D.rows ++ [r]).length ≤ m + 1
    rw [List.length_append]; exact Nat.succ_le_succ g.r
theorem Gd.write (g : Gd D m) {z : Str} {i : Int} (h : IsWord z) (hi : i.natAbs < 2 ^ 120) : Gd (writeD D z (.int i)).1 (m + 1) := by
  unfold writeD
  rcases g.top with ⟨st, e⟩ | ⟨k, y, rs, st, e⟩
  · rw [e]
    dsimp only
    split
    · exact g.up (Nat.le_succ _)
    · exact g.add ⟨h, ⟨i, rfl, hi⟩, .inr (.inl rfl)⟩
  · rw [e]
    dsimp only
    cases y with
    | some y => exact g.up (Nat.le_succ _)
    | none =>
      dsimp only
      split
      · exact g.up (Nat.le_succ _)
      · exact g.add ⟨h, ⟨i, rfl, hi⟩, .inl rfl⟩
end
/-! ### kept_values -/
def keptS (kvs : List (Key × V)) (r : Row) : List (Key × V) := if r.fate = "kept" then putK kvs (.inr r.rcd) r.val else kvs
def keptK (rows : List Row) : List (Key × V) := rows.foldl keptS []
theorem putK_keysG {kvs : List (Key × V)} {k : Key} {v : V} : (putK kvs k v).map (·.1) = if (valV kvs k).isSome = true then kvs.map (·.1) else kvs.map (·.1) ++ [k] := by
  unfold putK
  rw [valV_any]
  cases valV kvs k with
  | none =>
    rw [if_neg (by simp), if_neg (by simp), List.map_append]; rfl
  | some y =>
    rw [if_pos (show (some y).isSome = true from rfl), if_pos (show (some y).isSome = true from rfl), List.map_map]
    refine List.map_congr_left fun kv _ => ?_
    show (if kv.1 = k then (kv.1, v) else kv).1 = kv.1
    split <;> rfl
theorem put_strs {kvs : List (Key × V)} {z : Str} {v : V} {xs : List Str} (h : kvs.map (·.1) = xs.map Sum.inr) : ∃ ys : List Str, (putK kvs (.inr z) v).map (·.1) = ys.map Sum.inr ∧ (∀ y ∈ ys, y ∈ xs ∨ y = z) ∧ ys.length ≤ xs.length + 1 := by
  rw [putK_keysG]
  split
  · exact ⟨xs, h, fun y hy => .inl hy, Nat.le_succ _⟩
  · refine ⟨xs ++ [z], by rw [h, List.map_append]; rfl, fun y hy => ?_, by rw [List.length_append]; exact Nat.le_refl _⟩
    rcases List.mem_append.mp hy with hy | hy
    · exact .inl hy
    · exact .inr (List.mem_singleton.mp hy)
theorem kept_fold : ∀ (rows : List Row) (kvs : List (Key × V)) (xs : List Str), kvs.map (·.1) = xs.map Sum.inr → ∃ ys : List Str, (rows.foldl keptS kvs).map (·.1) = ys.map Sum.inr ∧ (∀ z ∈ ys, z ∈ xs ∨ ∃ r ∈ rows, r.rcd = z) ∧ ys.length ≤ xs.length + rows.length
  | [], kvs, xs, h => ⟨xs, h, fun z hz => .inl hz, Nat.le_refl _⟩
  | r :: rs, kvs, xs, h => by
    obtain ⟨ys, e, m, l⟩ : ∃ ys : List Str, (keptS kvs r).map (·.1) = ys.map Sum.inr ∧ (∀ y ∈ ys, y ∈ xs ∨ y = r.rcd) ∧ ys.length ≤ xs.length + 1 := by
      unfold keptS
      split
      · exact put_strs h
      · exact ⟨xs, h, fun y hy => .inl hy, Nat.le_succ _⟩
    obtain ⟨zs, e2, m2, l2⟩ := kept_fold rs _ ys e
    refine ⟨zs, e2, fun z hz => ?_, by rw [List.length_cons]; omega⟩
    rcases m2 z hz with q | ⟨r', q1, q2⟩
    · rcases m z q with q | q
      · exact .inl q
      · exact .inr ⟨r, List.mem_cons_self, q.symm⟩
    · exact .inr ⟨r', List.mem_cons_of_mem _ q1, q2⟩
theorem kept_take {rows : List Row} {i : Nat} {x : Row} (h : rows[i]? = some x) : keptK (rows.take (i + 1)) = keptS (keptK (rows.take i)) x := by
  unfold keptK
  rw [List.take_add_one, h, List.foldl_append]; rfl
theorem kept_len : ∀ (rows : List Row) (kvs : List (Key × V)), (rows.foldl keptS kvs).length ≤ kvs.length + rows.length
  | [], kvs => Nat.le_refl _
  | r :: rs, kvs => by
    have h := kept_len rs (keptS kvs r)
    have h2 : (keptS kvs r).length ≤ kvs.length + 1 := by
      unfold keptS
      split
      · exact length_putK _ _ _
      · exact Nat.le_succ _
    rw [List.foldl_cons, List.length_cons]; omega
def strK (kvs : List (Key × V)) : List Str := (kvs.map (·.1)).filterMap Sum.getRight?
theorem strK_of {kvs : List (Key × V)} {xs : List Str} (h : kvs.map (·.1) = xs.map Sum.inr) : strK kvs = xs := by
  unfold strK
  rw [h, List.filterMap_map]
  exact List.filterMap_some
def ordS (kvs acc : List (Key × V)) (z : Str) : List (Key × V) := putK acc (.inr z) ((valV kvs (.inr z)).getD .non)
def ordK (kvs : List (Key × V)) : List (Key × V) := (sortT (strK kvs)).foldl (ordS kvs) []
def keptD (D : Db) : List (Key × V) := ordK (keptK D.rows)
theorem ord_len {kvs : List (Key × V)} : ∀ (xs : List Str) (acc : List (Key × V)), (xs.foldl (ordS kvs) acc).length ≤ acc.length + xs.length
  | [], acc => Nat.le_refl _
  | z :: xs, acc => by
    have h := ord_len (kvs := kvs) xs (ordS kvs acc z)
    have h2 : (ordS kvs acc z).length ≤ acc.length + 1 := length_putK _ _ _
    rw [List.foldl_cons, List.length_cons]; omega
theorem val_some {kvs : List (Key × V)} {xs : List Str} {z : Str} (h : kvs.map (·.1) = xs.map Sum.inr) (hz : z ∈ xs) : ∃ v, valV kvs (.inr z) = some v := by
  have : (valV kvs (.inr z)).isSome = true := by
    rw [← valV_any, List.any_eq_true]
    have m : (Sum.inr z : Key) ∈ kvs.map (·.1) := by rw [h]; exact List.mem_map.mpr ⟨z, hz, rfl⟩
    obtain ⟨p, hp, e⟩ := List.mem_map.mp m
    exact ⟨p, hp, decide_eq_true e⟩
  exact Option.isSome_iff_exists.mp this
def spKept (a : Ad) : Sp := fun vs H Q _ => ∃ L D, vs = [.ref L.db] ∧ DB a H L D ∧ Sm D ∧ ∀ H' q, Same H H' → H' q = some (.dK (keptD D)) → H q = none → Q (.ref q) H'
theorem ok_Database_kept_values (T : Txt K mg a d) : FnOk P w K mg base CX0 1 a.Database_kept_values d.Database_kept_values ["self"] (spKept a) := by
  refine T.Database_kept_values.ok sc_Database_kept_values (fun vs H Q E h => ?_) (fun cdv A outer s H vs Q E hr h => ?_)
  · obtain ⟨L, D, rfl, _⟩ := h
    rfl
  · obtain ⟨L, D, rfl, hD, hm, k⟩ := h
    have c1 := T.k_Database
    have c3 := T.k_Write
    have n2 := T.na_Database_rows
    have n5 := T.na_Write_fate
    have n7 := T.na_Write_record
    have n8 := T.na_Write_value
    have hlw : L.ws.length = D.rows.length := hD.rows.len
    refine ⟨_, (pss_cons (ps_set (i := 1) sc_Database_kept_values.nd rfl (Or.inr rfl) pe_dnewK)
  (pss_cons (ps_for PassesOwn.never rfl (pi_list (pe_fld (pv 0) rfl)) (pg_name (i := 2) sc_Database_kept_values.nd rfl (Or.inl rfl))
  (pss_one (ps_if (pt_cmpR op_eq (pe_fld (pv 2) rfl) pe_str (nomark _)) (pss_one (ps_dput (hu_of hr) (pv 1) (pe_fld (pv 2) rfl) (pe_fld (pv 2) rfl) rfl)) pss_nil)))
  (pss_one (ps_ret (pe_dc (own := [("record", 3)]) (tt := tYes) rfl sc_Database_kept_values.nd (pi_list (pe_callB (cr_sortDK rfl) (by rfl) T.n_sorted (by decide +kernel) (pa_cons (pv 1) pa_nil))) (blkOk_by (own := [("record", 3)]) (N := ["self", "last", "row", "record"]) (sc := defScope s_Database_kept_values) (by decide +kernel)) (fun _ _ _ _ _ => (pg_name (i := 3) sc_Database_kept_values.nd rfl (Or.inl rfl))) (fun _ _ _ _ _ => pts_nil) (fun _ _ _ _ _ => (pv 3)) (fun _ _ _ _ _ => (pe_dget (hu_of hr) (pv 1) (pv 3) (fun _ _ => rfl)))))))), ?_⟩
    dsimp only [cxOf]
    walk_at "rd"
    intro q hq
    have h1 := upd_old (o := .dK []) hD.db hq
    have h2 := upd_old (o := .dK []) hD.r hq
    walk_at "rd"
    refine ⟨⟨_, SqL.of h2⟩, ?_⟩
    refine for_list (xs := L.ws.map fun w => V.ref w.1) (fun i σ H' => Kp (fun b => b = q) H H' ∧ H' q = some (.dK (keptK (D.rows.take i))) ∧ ∃ v2 v3, σ = [some (.ref L.db), some (.ref q), v2, v3]) ?_ ?_ ?_ ?_
    · exact ⟨Kp.refl.fresh hq, upd_same, _, _, rfl⟩
    · rintro i σ H' _ ⟨kp, _⟩
      exact SqL.of (kp _ _ hD.r (ne_of_none hD.r hq))
    · rintro i v σ H' hv ⟨kp, hq', v2, v3, rfl⟩
      obtain ⟨w', hw, rfl⟩ := map_ref hv
      obtain ⟨x, hx, hxw⟩ := hD.rows.get hw
      have hxw : H w'.1 = some (.ins a.Write w'.2 (rwF x)) := hxw
      have hx' := kp _ _ hxw (ne_of_none hxw hq)
      have hl : (keptK (D.rows.take i)).length < sizeLine := by
        have z1 := kept_len (D.rows.take i) []
        have z2 := hm.n
        have z3 : (D.rows.take i).length ≤ D.rows.length := by rw [List.length_take]; omega
        rw [sizeLine_eq]
        show (List.foldl keptS [] (D.rows.take i)).length < _
        simp only [List.length_nil] at z1
        omega
      rw [kept_take hx]
      walk_at "rd"
      refine ite2 (fun b1 => ?_) (fun b1 => ?_)
      · have q1 : x.fate = "kept" := V.str.inj (of_decide_eq_true b1)
        have dp := DPut.k (k := Sum.inr x.rcd) (v := x.val) hq' hl
        rw [show keptS (keptK (D.rows.take i)) x = putK (keptK (D.rows.take i)) (.inr x.rcd) x.val from if_pos q1]
        walk_at "rd"
        exact ⟨_, rfl, dp, kp.set1, upd_same, _, _, rfl⟩
      · have q1 : ¬ x.fate = "kept" := fun e => b1 (decide_eq_true (congrArg V.str e))
        rw [show keptS (keptK (D.rows.take i)) x = keptK (D.rows.take i) from if_neg q1]
        walk_at "rd"
        exact ⟨_, _, rfl⟩
    · rintro σ H' ⟨kp, hq', v2, v3, rfl⟩
      rw [List.length_map, hlw, List.take_length] at hq'
      have sm : Same H H' := Kp.same (Same.refl H) kp fun c e => e ▸ hq
      obtain ⟨xs, e, mx, lx⟩ := kept_fold D.rows [] [] rfl
      have e : (keptK D.rows).map (·.1) = xs.map Sum.inr := e
      have lx : xs.length ≤ 4000 := by
        have := hm.n
        simp only [List.length_nil] at lx
        omega
      have kd : keptD D = (sortT xs).foldl (ordS (keptK D.rows)) [] := by
        unfold keptD ordK
        rw [strK_of e]
      walk_at "rd"
      intro p hp
      have hp1 := upd_same (H := H') (a := p) (o := .lst ((sortT xs).map V.str))
      have hq1 := upd_old (o := .lst ((sortT xs).map V.str)) hq' hp
      have s1 := sm.new (o := .lst ((sortT xs).map V.str)) hp
      generalize upd H' p (.lst ((sortT xs).map V.str)) = H1 at hp1 hq1 s1 ⊢
      walk_at "rd"
      refine ⟨⟨_, SqL.of hp1⟩, ?_⟩
      intro S hS
      refine dc_list (xs := (sortT xs).map V.str) (fun i H2 => Kp (fun b => b = S) H1 H2 ∧ H2 S = some (.dK (((sortT xs).take i).foldl (ordS (keptK D.rows)) []))) ?_ ?_ ?_ ?_
      · exact ⟨Kp.refl.fresh hS, upd_same⟩
      · rintro i H2 _ ⟨kp2, _⟩
        exact SqL.of (kp2 _ _ hp1 (ne_of_none hp1 hS))
      · rintro i v H2 hv ⟨kp2, hS2⟩
        rw [List.getElem?_map] at hv
        obtain ⟨z, hz, rfl⟩ : ∃ z, (sortT xs)[i]? = some z ∧ v = .str z := by
          cases e : (sortT xs)[i]? with
          | none => rw [e] at hv; cases hv
          | some z => rw [e] at hv; cases hv; exact ⟨z, rfl, rfl⟩
        obtain ⟨v, hvz⟩ := val_some e (sortT_mem.mp (List.mem_of_getElem? hz))
        have hq2 := kp2 _ _ hq1 (ne_of_none hq1 hS)
        have dg : DGet H2 q (V.str z) (some v) := hvz ▸ DGet.k (k := Sum.inr z) hq2
        have hl : (((sortT xs).take i).foldl (ordS (keptK D.rows)) []).length < sizeLine := by
          have z1 := ord_len (kvs := keptK D.rows) ((sortT xs).take i) []
          rw [List.length_take, sortT_len] at z1
          rw [sizeLine_eq]
          simp only [List.length_nil] at z1
          omega
        have st : ((sortT xs).take (i + 1)).foldl (ordS (keptK D.rows)) [] = putK (((sortT xs).take i).foldl (ordS (keptK D.rows)) []) (.inr z) v := by
          rw [List.take_add_one, hz, List.foldl_append]
          show ordS _ _ z = _
          unfold ordS
          rw [hvz]; rfl
        rw [st]
        walk_at "rd"
        case h.w => exact (Sum.inr z : Key)
        exact ⟨rfl, hS2, hl, kp2.set1, upd_same⟩
      · rintro H2 ⟨kp2, hS2⟩
        rw [List.length_map, List.take_length, ← kd] at hS2
        exact k _ S (s1.trans (Kp.same (Same.refl H1) kp2 fun c e => e ▸ hS)) hS2 (s1.free hS)
/-! ### several databases and cells (lists, dicts, tuples), apart from one another -/
theorem get_set {α : Type} {l : List α} {i j : Nat} {x y : α} (h : (l.set i x)[j]? = some y) : (j = i ∧ y = x) ∨ (j ≠ i ∧ l[j]? = some y) := by
  rw [List.getElem?_set] at h
  by_cases e : i = j
  · rw [if_pos e] at h
    split at h
    · exact .inl ⟨e.symm, (Option.some.inj h).symm⟩
    · cases h
  · rw [if_neg e] at h
    exact .inr ⟨fun z => e z.symm, h⟩
theorem get_app {α : Type} {l : List α} {j : Nat} {x y : α} (h : (l ++ [x])[j]? = some y) : (j = l.length ∧ y = x) ∨ (j ≠ l.length ∧ l[j]? = some y) := by
  rcases Nat.lt_trichotomy j l.length with lt | eq | gt
  · rw [List.getElem?_append_left lt] at h
    exact .inr ⟨by omega, h⟩
  · subst eq
    rw [List.getElem?_append_right (Nat.le_refl _), Nat.sub_self] at h
    exact .inl ⟨rfl, (Option.some.inj h).symm⟩
  · rw [List.getElem?_append_right (by omega)] at h
    have : j - l.length ≠ 0 := by omega
    cases e : j - l.length with
    | zero => exact absurd e this
    | succ k => rw [e] at h; simp at h
structure Wd (a : Ad) (H0 H : Hp) (ds : List (Lay × Db)) (cs : List (Addr × HO)) : Prop where
  same : Same H0 H
  db : ∀ (j : Nat) (x : Lay × Db), ds[j]? = some x → DB a H x.1 x.2
  df : ∀ (j : Nat) (x : Lay × Db), ds[j]? = some x → ∀ b, Mut x.1 b → H0 b = none
  dd : ∀ (i j : Nat) (x y : Lay × Db), ds[i]? = some x → ds[j]? = some y → i ≠ j → ∀ b, Mut x.1 b → ¬ Mut y.1 b
  cl : ∀ (i : Nat) (y : Addr × HO), cs[i]? = some y → H y.1 = some y.2
  ci : ∀ (i : Nat) (y : Addr × HO), cs[i]? = some y → ∀ C dx fs, y.2 ≠ .ins C dx fs
  cf : ∀ (i : Nat) (y : Addr × HO), cs[i]? = some y → H0 y.1 = none
  cc : ∀ (i j : Nat) (y z : Addr × HO), cs[i]? = some y → cs[j]? = some z → i ≠ j → y.1 ≠ z.1
  dc : ∀ (i j : Nat) (x : Lay × Db) (y : Addr × HO), ds[i]? = some x → cs[j]? = some y → ¬ Mut x.1 y.1
section
variable {a : Ad} {H0 H H' : Hp} {ds : List (Lay × Db)} {cs : List (Addr × HO)}
theorem DbAt.kpN {S : Addr → Prop} {aD aT aW : Addr} {L : Lay} {D : Db} (h : DbAt aD aT aW H L D) (k : Kp S H H') (n : ∀ b, S b → ¬ Mut L b ∧ ∀ dx n q, H b ≠ some (.ins aT dx (txF n q))) : DbAt aD aT aW H' L D := by
  refine h.keep fun b u f e => k b u e fun z => ?_
  rcases f with f | ⟨t, m, rfl⟩
  · exact (n b z).1 f
  · obtain ⟨x, h1, _⟩ := h.tx m
    exact (n _ z).2 _ _ _ h1
/-- a transaction's object is none of what may change in a database -/
theorem DbAt.txN {aD aT aW : Addr} {L : Lay} {D : Db} (h : DbAt aD aT aW H L D) {b : Addr} (m : Mut L b) (dx : Addr) (n : Int) (q : Addr) : H b ≠ some (.ins aT dx (txF n q)) := fun e => by
  rcases m with rfl | rfl | rfl | rfl | ⟨t, m, rfl⟩ | ⟨w, m, rfl⟩
  · rw [h.db] at e
    injection e with e
    injection e with _ _ e
    exact absurd (congrArg List.length e) (by simp)
  · rw [h.r] at e; cases e
  · rw [h.s] at e; cases e
  · rw [h.e] at e; cases e
  · obtain ⟨x, _, h2, _⟩ := h.tx m
    rw [h2] at e; cases e
  · obtain ⟨x, h1⟩ := h.row m
    rw [h1] at e
    injection e with e
    injection e with _ _ e
    exact absurd (congrArg List.length e) (by simp)
theorem wd_new : Wd a H H [] [] := ⟨Same.refl H, by simp, by simp, by simp, by simp, by simp, by simp, by simp, by simp⟩
theorem Wd.keep (h : Wd a H0 H ds cs) (k : Same H H') : Wd a H0 H' ds cs :=
  ⟨h.same.trans k, fun j x e => (h.db j x e).keep fun b u _ e => k b u e, h.df, h.dd, fun i y e => k _ _ (h.cl i y e), h.ci, h.cf, h.cc, h.dc⟩
theorem Wd.onto {B : Hp} (h : Wd a H0 H ds cs) (s1 : Same B H0) : Wd a B H ds cs :=
  ⟨s1.trans h.same, h.db, fun j x e b m => s1.free (h.df j x e b m), h.dd, h.cl, h.ci, fun i y e => s1.free (h.cf i y e), h.cc, h.dc⟩
/-- the cell i is changed -/
theorem Wd.putC {i : Nat} {p : Addr} {o o' : HO} (h : Wd a H0 H ds cs) (e : cs[i]? = some (p, o)) (k : Kp (fun b => b = p) H H') (e' : H' p = some o') (ni : ∀ C dx fs, o' ≠ .ins C dx fs) : Wd a H0 H' ds (cs.set i (p, o')) := by
  refine ⟨Kp.same h.same k fun b q => q ▸ h.cf i _ e, fun j x ej => (h.db j x ej).kpN k fun b q => ⟨q ▸ h.dc j i x _ ej e, fun dx n qq z => ?_⟩, h.df, h.dd, ?_, ?_, ?_, ?_, ?_⟩
  · rw [q, h.cl i _ e] at z
    exact h.ci i _ e _ _ _ (Option.some.inj z)
  · intro j y ej
    rcases get_set ej with ⟨_, rfl⟩ | ⟨n, ej⟩
    · exact e'
    · exact k _ _ (h.cl j y ej) (h.cc j i y _ ej e n)
  · intro j y ej
    rcases get_set ej with ⟨_, rfl⟩ | ⟨n, ej⟩
    · exact ni
    · exact h.ci j y ej
  · intro j y ej
    rcases get_set ej with ⟨_, rfl⟩ | ⟨n, ej⟩
    · exact h.cf i (p, o) e
    · exact h.cf j y ej
  · intro j l y z ej el n
    rcases get_set ej with ⟨q1, rfl⟩ | ⟨n1, ej⟩ <;> rcases get_set el with ⟨q2, rfl⟩ | ⟨n2, el⟩
    · exact absurd (q1.trans q2.symm) n
    · exact h.cc i l (p, o) z e el (fun q => n2 q.symm)
    · exact h.cc j i y (p, o) ej e n1
    · exact h.cc j l y z ej el n
  · intro j l x y ej el
    rcases get_set el with ⟨q2, rfl⟩ | ⟨n2, el⟩
    · exact h.dc j i x (p, o) ej e
    · exact h.dc j l x y ej el
theorem Wd.setC {i : Nat} {p : Addr} {o : HO} (o' : HO) (h : Wd a H0 H ds cs) (e : cs[i]? = some (p, o)) (ni : ∀ C dx fs, o' ≠ .ins C dx fs) : Wd a H0 (upd H p o') ds (cs.set i (p, o')) :=
  h.putC e Kp.refl.set1 upd_same ni
/-- the database j is changed -/
theorem Wd.putD {j : Nat} {L L' : Lay} {D D' : Db} (h : Wd a H0 H ds cs) (e : ds[j]? = some (L, D)) (hD : DB a H' L' D') (f : Fr H H' L L') : Wd a H0 H' (ds.set j (L', D')) cs := by
  have mt : ∀ b, Mut L' b → Mut L b ∨ H b = none := f.mt
  refine ⟨fun b u q => f.kp b u (h.same b u q) fun z => ?_, ?_, ?_, ?_, fun i y q => f.kp _ _ (h.cl i y q) (h.dc j i _ y e q), h.ci, h.cf, h.cc, ?_⟩
  · rw [h.df j _ e b z] at q; cases q
  · intro i x q
    rcases get_set q with ⟨_, rfl⟩ | ⟨n, q⟩
    · exact hD
    · exact (h.db i x q).kpN f.kp fun b m => ⟨h.dd j i _ x e q (fun z => n z.symm) b m, fun dx nn qq => (h.db j _ e).txN m dx nn qq⟩
  · intro i x q b m
    rcases get_set q with ⟨_, rfl⟩ | ⟨n, q⟩
    · rcases mt b m with z | z
      · exact h.df j _ e b z
      · exact h.same.free z
    · exact h.df i x q b m
  · intro i l x y q1 q2 n b m1 m2
    rcases get_set q1 with ⟨n1, rfl⟩ | ⟨n1, q1⟩ <;> rcases get_set q2 with ⟨n2, rfl⟩ | ⟨n2, q2⟩
    · exact n (n1.trans n2.symm)
    · rcases mt b m1 with z | z
      · exact h.dd j l _ y e q2 (fun z => n2 z.symm) b z m2
      · exact (h.db l y q2).fresh z m2
    · rcases mt b m2 with z | z
      · exact h.dd i j x _ q1 e n1 b m1 z
      · exact (h.db i x q1).fresh z m1
    · exact h.dd i l x y q1 q2 n b m1 m2
  · intro i l x y q1 q2
    rcases get_set q1 with ⟨n1, rfl⟩ | ⟨n1, q1⟩
    · exact f.out (h.cl l y q2) (h.dc j l _ y e q2)
    · exact h.dc i l x y q1 q2
/-- a new cell -/
theorem Wd.addC {p : Addr} {o : HO} (h : Wd a H0 H ds cs) (hp : H p = none) (ni : ∀ C dx fs, o ≠ .ins C dx fs) : Wd a H0 (upd H p o) ds (cs ++ [(p, o)]) := by
  have h' := h.keep ((Same.refl H).new (o := o) hp)
  refine ⟨h'.same, h'.db, h.df, h.dd, ?_, ?_, ?_, ?_, ?_⟩
  · intro i y e
    rcases get_app e with ⟨_, rfl⟩ | ⟨_, e⟩
    · exact upd_same
    · exact h'.cl i y e
  · intro i y e
    rcases get_app e with ⟨_, rfl⟩ | ⟨_, e⟩
    · exact ni
    · exact h.ci i y e
  · intro i y e
    rcases get_app e with ⟨_, rfl⟩ | ⟨_, e⟩
    · exact h.same.free hp
    · exact h.cf i y e
  · intro i j y z e1 e2 n
    rcases get_app e1 with ⟨q1, rfl⟩ | ⟨_, e1⟩ <;> rcases get_app e2 with ⟨q2, rfl⟩ | ⟨_, e2⟩
    · exact absurd (q1.trans q2.symm) n
    · exact Ne.symm (ne_of_none (h.cl j z e2) hp)
    · exact ne_of_none (h.cl i y e1) hp
    · exact h.cc i j y z e1 e2 n
  · intro i j x y e1 e2
    rcases get_app e2 with ⟨q2, rfl⟩ | ⟨_, e2⟩
    · exact (h.db i x e1).fresh hp
    · exact h.dc i j x y e1 e2
/-- cells are forgotten -/
theorem Wd.drop {cs' : List (Addr × HO)} (h : Wd a H0 H ds (cs ++ cs')) : Wd a H0 H ds cs := by
  have g : ∀ {i : Nat} {y : Addr × HO}, cs[i]? = some y → (cs ++ cs')[i]? = some y := fun {i y} e => by
    rw [List.getElem?_append_left (List.getElem?_eq_some_iff.mp e).1]; exact e
  exact ⟨h.same, h.db, h.df, h.dd, fun i y e => h.cl i y (g e), fun i y e => h.ci i y (g e), fun i y e => h.cf i y (g e), fun i j y z e1 e2 => h.cc i j y z (g e1) (g e2), fun i j x y e1 e2 => h.dc i j x y e1 (g e2)⟩
/-- a new database -/
theorem Wd.addD {L : Lay} {D : Db} (h : Wd a H0 H ds cs) (s : Same H H') (hD : DB a H' L D) (mt : ∀ b, Mut L b → H b = none) : Wd a H0 H' (ds ++ [(L, D)]) cs := by
  have h' := h.keep s
  refine ⟨h'.same, ?_, ?_, ?_, h'.cl, h.ci, h.cf, h.cc, ?_⟩
  · intro j x e
    rcases get_app e with ⟨_, rfl⟩ | ⟨_, e⟩
    · exact hD
    · exact h'.db j x e
  · intro j x e b m
    rcases get_app e with ⟨_, rfl⟩ | ⟨_, e⟩
    · exact h.same.free (mt b m)
    · exact h.df j x e b m
  · intro i j x y e1 e2 n b m1 m2
    rcases get_app e1 with ⟨q1, rfl⟩ | ⟨_, e1⟩ <;> rcases get_app e2 with ⟨q2, rfl⟩ | ⟨_, e2⟩
    · exact absurd (q1.trans q2.symm) n
    · exact (h.db j y e2).fresh (mt b m1) m2
    · exact (h.db i x e1).fresh (mt b m2) m1
    · exact h.dd i j x y e1 e2 n b m1 m2
  · intro i j x y e1 e2
    rcases get_app e1 with ⟨q1, rfl⟩ | ⟨_, e1⟩
    · exact fun m => by
        have := mt _ m
        rw [h.cl j y e2] at this; cases this
    · exact h.dc i j x y e1 e2
theorem PoolO.ni {o : HO} {c : Nat} (h : PoolO o c) (C dx : Addr) (fs : List (Str × V)) : o ≠ .ins C dx fs := by
  obtain ⟨x, y, z, e, _⟩ := h
  rw [e]
  exact fun z => by cases z
theorem lst_ni {xs : List V} (C dx : Addr) (fs : List (Str × V)) : HO.lst xs ≠ .ins C dx fs := fun z => by cases z
theorem tup_ni {xs : List V} (C dx : Addr) (fs : List (Str × V)) : HO.tup xs ≠ .ins C dx fs := fun z => by cases z
theorem dK_ni {xs : List (Key × V)} (C dx : Addr) (fs : List (Str × V)) : HO.dK xs ≠ .ins C dx fs := fun z => by cases z
end
theorem Wd.made {a : Ad} {H0 H H1 : Hp} {ds : List (Lay × Db)} {cs : List (Addr × HO)} {x dx : Addr} {L : Lay} {D : Db} (W : Wd a H0 H ds cs) (hx : H x = none) (hdx : H dx = none) (hD : DB a H1 L D) (kp : Kp (fun b => b = x) (upd (upd H dx (.own x)) x (.ins a.Database dx [])) H1) (mt : ∀ b, Mut L b → b = x ∨ upd (upd H dx (.own x)) x (.ins a.Database dx []) b = none) : Wd a H0 H1 (ds ++ [(L, D)]) cs := by
  refine W.addD (fun b u e => kp b u (upd_oth (ne_of_none e hx) (upd_oth (ne_of_none e hdx) e)) (ne_of_none e hx)) hD fun b m => ?_
  rcases mt b m with rfl | z
  · exact hx
  · exact (none_upd (none_upd z).2).2
/-! ### k09, plain: rows that are undone do not matter -/
def liveR (rows : List Row) : List Row := rows.filter fun r => !decide (r.fate = "undone")
theorem live_app (l m : List Row) : liveR (l ++ m) = liveR l ++ liveR m := List.filter_append _ _
theorem undone_open : ¬ (("undone" : Str) = "open") := by decide +kernel
theorem live_cons {x : Row} {r : List Row} : liveR (x :: r) = if x.fate = "undone" then liveR r else x :: liveR r := by
  unfold liveR
  rw [List.filter_cons]
  by_cases e : x.fate = "undone"
  · rw [if_neg (by simp [e]), if_pos e]
  · rw [if_pos (by simp [e]), if_neg e]
theorem held_live (ns : List Int) : ∀ (rows : List Row) (l : List Str), (liveR rows).foldl (heldS ns) l = rows.foldl (heldS ns) l
  | [], _ => rfl
  | x :: r, l => by
    rw [List.foldl_cons, live_cons]
    by_cases e : x.fate = "undone"
    · rw [if_pos e, held_live ns r]
      have : heldS ns l x = l := if_neg fun c => undone_open (e.symm.trans c.1)
      rw [this]
    · rw [if_neg e, List.foldl_cons, held_live ns r]
theorem heldL_live {r1 r2 : List Row} (h : liveR r2 = liveR r1) (ns : List Int) : heldL r2 ns = heldL r1 ns := by
  unfold heldL
  rw [← held_live, ← held_live ns r1, h]
theorem live_map {f : Row → Row} (hf : ∀ x : Row, x.fate = "undone" → (f x).fate = "undone") : ∀ rows, liveR (rows.map f) = liveR ((liveR rows).map f)
  | [] => rfl
  | x :: r => by
    rw [List.map_cons, live_cons, live_cons]
    by_cases e : x.fate = "undone"
    · rw [if_pos e, if_pos (hf x e), live_map hf r]
    · rw [if_neg e, List.map_cons, live_cons, live_map hf r]
theorem live_map2 {f : Row → Row} (hf : ∀ x : Row, x.fate = "undone" → (f x).fate = "undone") {r1 r2 : List Row} (h : liveR r2 = liveR r1) : liveR (r2.map f) = liveR (r1.map f) := by
  rw [live_map hf, live_map hf r1, h]
structure R9 (D E : Db) : Prop where
  e : E = { D with rows := E.rows }
  l : liveR E.rows = liveR D.rows
section
variable {D E : Db}
theorem R9.refl : R9 D D := ⟨rfl, rfl⟩
theorem R9.outer (h : R9 D E) : outerL E = outerL D := by
  have e := congrArg Db.stack h.e
  unfold outerL
  rw [e, heldL_live h.l]
theorem R9.own (h : R9 D E) : ownL E = ownL D := by
  have e := congrArg Db.stack h.e
  unfold ownL
  rw [e, heldL_live h.l]
theorem R9.enter (h : R9 D E) (v : V) : (enterV E v).2 = (enterV D v).2 ∧ R9 (enterV D v).1 (enterV E v).1 := by
  obtain ⟨rows, stack, entered, floor, opened⟩ := D
  obtain ⟨r2, s2, e2, f2, o2⟩ := E
  obtain ⟨e, l⟩ := h
  injection e with _ h2 h3 h4 h5
  subst h2 h3 h4 h5
  unfold enterV
  by_cases c : modeB v = true
  · rw [if_pos c, if_pos c]
    cases v with
    | str m =>
      dsimp only
      unfold enterD
      rcases s2 with _ | ⟨_ | ⟨n, _ | ⟨y, rs⟩⟩, st⟩
      · exact ⟨rfl, rfl, l⟩
      · dsimp only
        unfold aloneD
        by_cases c1 : decide (V.str m = V.str "must") = true
        · rw [if_pos c1, if_pos c1]; exact ⟨rfl, rfl, l⟩
        rw [if_neg c1, if_neg c1]
        by_cases c2 : inV (.str m) [.str "either", .str "never", .str "outside"] = true
        · rw [if_pos c2, if_pos c2]; exact ⟨rfl, rfl, l⟩
        rw [if_neg c2, if_neg c2]; exact ⟨rfl, rfl, l⟩
      · exact ⟨rfl, rfl, l⟩
      · dsimp only
        unfold lvlD
        by_cases c1 : inV (.str m) [.str "never", .str "alone"] = true
        · rw [if_pos c1, if_pos c1]; exact ⟨rfl, rfl, l⟩
        rw [if_neg c1, if_neg c1]
        by_cases c2 : decide (V.str m = V.str "inner") = true
        · rw [if_pos c2, if_pos c2]
          cases y <;> exact ⟨rfl, rfl, l⟩
        rw [if_neg c2, if_neg c2]
        by_cases c3 : decide (V.str m = V.str "apart") = true
        · rw [if_pos c3, if_pos c3]; exact ⟨rfl, rfl, l⟩
        rw [if_neg c3, if_neg c3]
        by_cases c4 : decide (V.str m = V.str "outside") = true
        · rw [if_pos c4, if_pos c4]; exact ⟨rfl, rfl, l⟩
        rw [if_neg c4, if_neg c4]; exact ⟨rfl, rfl, l⟩
    | _ => exact ⟨rfl, rfl, l⟩
  · rw [if_neg c, if_neg c]; exact ⟨rfl, rfl, l⟩
theorem R9.doom (h : R9 D E) (z : Str) : R9 (doomD D z) (doomD E z) := by
  obtain ⟨rows, stack, entered, floor, opened⟩ := D
  obtain ⟨r2, s2, e2, f2, o2⟩ := E
  obtain ⟨e, l⟩ := h
  injection e with _ h2 h3 h4 h5
  subst h2 h3 h4 h5
  rcases s2 with _ | ⟨_ | ⟨n, _ | ⟨_ | y, rs⟩⟩, st⟩ <;> exact ⟨rfl, l⟩
theorem endL_undone {n t : Int} {ok : Bool} (x : Row) (h : x.fate = "undone") : (endLRow n t ok x).fate = "undone" := by
  unfold endLRow
  rw [if_neg fun c => undone_open (h.symm.trans c.1)]; exact h
theorem endT_undone {n : Int} {f : Str} (x : Row) (h : x.fate = "undone") : (endTRow n f x).fate = "undone" := by
  unfold endTRow
  rw [if_neg fun c => undone_open (h.symm.trans c.1)]; exact h
theorem R9.leave (h : R9 D E) (err : Option Str) (c : Bool) : (leaveD E err c).2 = (leaveD D err c).2 ∧ R9 (leaveD D err c).1 (leaveD E err c).1 := by
  have hd : ∀ {D E : Db}, R9 D E → ∀ z, R9 (doomD D z) (doomD E z) := fun h z => h.doom z
  obtain ⟨rows, stack, entered, floor, opened⟩ := D
  obtain ⟨r2, s2, e2, f2, o2⟩ := E
  obtain ⟨e, l⟩ := h
  injection e with _ h2 h3 h4 h5
  subst h2 h3 h4 h5
  unfold leaveD
  by_cases c0 : (e2.length : Int) ≤ f2
  · rw [if_pos c0, if_pos c0]; exact ⟨rfl, rfl, l⟩
  rw [if_neg c0, if_neg c0]
  unfold leaveW
  cases e2 with
  | nil => exact ⟨rfl, rfl, l⟩
  | cons e es =>
    dsimp only
    by_cases c1 : e = "outside"
    · rw [if_pos c1, if_pos c1]; exact ⟨rfl, rfl, l⟩
    rw [if_neg c1, if_neg c1]
    by_cases c2 : e = "joined"
    · rw [if_pos c2, if_pos c2]
      cases err with
      | none => exact ⟨rfl, rfl, l⟩
      | some z => exact ⟨rfl, hd (D := ⟨rows, s2, es, f2, o2⟩) (E := ⟨r2, s2, es, f2, o2⟩) ⟨rfl, l⟩ z⟩
    rw [if_neg c2, if_neg c2]
    by_cases c3 : e = "level"
    · rw [if_pos c3, if_pos c3]
      unfold endLD
      rcases s2 with _ | ⟨_ | ⟨n, _ | ⟨y, rs⟩⟩, st⟩
      · exact ⟨rfl, rfl, l⟩
      · exact ⟨rfl, rfl, l⟩
      · exact ⟨rfl, rfl, l⟩
      · exact ⟨rfl, rfl, live_map2 endL_undone l⟩
    rw [if_neg c3, if_neg c3]
    by_cases c4 : e = "base"
    · rw [if_pos c4, if_pos c4]
      unfold endTD
      rcases s2 with _ | ⟨_ | ⟨n, _ | ⟨y, rs⟩⟩, st⟩
      · exact ⟨rfl, rfl, l⟩
      · exact ⟨rfl, rfl, l⟩
      · exact ⟨rfl, rfl, l⟩
      · exact ⟨rfl, rfl, live_map2 endT_undone l⟩
    rw [if_neg c4, if_neg c4]; exact ⟨rfl, rfl, l⟩
theorem R9.write (h : R9 D E) (z : Str) (v : V) : (writeD E z v).2 = (writeD D z v).2 ∧ R9 (writeD D z v).1 (writeD E z v).1 := by
  have ho := h.outer
  obtain ⟨rows, stack, entered, floor, opened⟩ := D
  obtain ⟨r2, s2, e2, f2, o2⟩ := E
  obtain ⟨e, l⟩ := h
  injection e with _ h2 h3 h4 h5
  subst h2 h3 h4 h5
  have ad : ∀ r : Row, liveR (r2 ++ [r]) = liveR (rows ++ [r]) := fun r => by rw [live_app, live_app]; exact congrArg (· ++ liveR [r]) l
  unfold writeD
  rcases s2 with _ | ⟨_ | ⟨n, _ | ⟨_ | y, rs⟩⟩, st⟩
  · exact ⟨rfl, rfl, l⟩
  · dsimp only
    rw [ho]
    by_cases c : z ∈ outerL ⟨rows, none :: st, e2, f2, o2⟩
    · rw [if_pos c, if_pos c]; exact ⟨rfl, rfl, l⟩
    · rw [if_neg c, if_neg c]; exact ⟨rfl, rfl, ad _⟩
  · exact ⟨rfl, rfl, l⟩
  · dsimp only
    rw [ho]
    by_cases c : z ∈ outerL ⟨rows, some ⟨n, none :: rs⟩ :: st, e2, f2, o2⟩
    · rw [if_pos c, if_pos c]; exact ⟨rfl, rfl, l⟩
    · rw [if_neg c, if_neg c]; exact ⟨rfl, rfl, ad _⟩
  · exact ⟨rfl, rfl, l⟩
end
/-! ### k09, plain: inside the inner block -/
inductive Lv : List Str → List (Option Str) → Prop
  | base {y} : Lv [] [y]
  | joined {es y rs} (h : Lv es (y :: rs)) : Lv ("joined" :: es) (y :: rs)
  | level {es y z rs} (h : Lv es (z :: rs)) : Lv ("level" :: es) (y :: z :: rs)
theorem Lv.head {es : List Str} {y z : Option Str} {rs : List (Option Str)} (h : Lv es (y :: rs)) : Lv es (z :: rs) := by
  generalize e : y :: rs = q at h
  induction h with
  | base => cases e; exact .base
  | joined h ih => cases e; exact .joined (ih rfl)
  | level h ih => cases e; exact .level h
structure B9 (D : Db) (n : Int) (rs0 : List (Option Str)) (st0 : List (Option Tx)) (E : Db) (esN : List Str) (rsN : List (Option Str)) (U : List Row) : Prop where
  d : D.stack = some ⟨n, rs0⟩ :: st0
  e : E = ⟨D.rows ++ U, some ⟨n, rsN ++ rs0⟩ :: st0, esN ++ ("level" : Str) :: D.entered, D.floor, D.opened⟩
  lv : Lv esN rsN
  old : ∀ r ∈ D.rows, r.fate = "open" → r.holder = n → r.level < (rs0.length : Int)
  new : ∀ r ∈ U, r.fate = "undone" ∨ (r.fate = "open" ∧ r.holder = n ∧ (rs0.length : Int) ≤ r.level ∧ r.level < (rsN.length + rs0.length : Int))
section
variable {D E : Db} {n : Int} {rs0 : List (Option Str)} {st0 : List (Option Tx)} {esN : List Str} {rsN : List (Option Str)} {U : List Row}
theorem B9.start {y : Option Str} {rs : List (Option Str)} (d : D.stack = some ⟨n, none :: rs⟩ :: st0) (old : ∀ r ∈ D.rows, r.fate = "open" → r.holder = n → r.level < ((none :: rs : List (Option Str)).length : Int)) :
    enterD D "inner" = (⟨D.rows ++ [], some ⟨n, [none] ++ none :: rs⟩ :: st0, [] ++ ("level" : Str) :: D.entered, D.floor, D.opened⟩, none) ∧ B9 D n (none :: rs) st0 ⟨D.rows ++ [], some ⟨n, [none] ++ none :: rs⟩ :: st0, [] ++ ("level" : Str) :: D.entered, D.floor, D.opened⟩ [] [none] [] := by
  refine ⟨?_, d, rfl, .base, old, fun r hr => nomatch hr⟩
  unfold enterD
  rw [d]
  dsimp only
  unfold lvlD
  rw [if_neg (by decide +kernel), if_pos (by decide +kernel), List.append_nil]
  rfl
theorem Lv.cons {es : List Str} {rs : List (Option Str)} (h : Lv es rs) : ∃ y r, rs = y :: r := by cases h <;> exact ⟨_, _, rfl⟩
def inM : List Str := ["join", "must", "either", "inner"]
theorem B9.enter (h : B9 D n rs0 st0 E esN rsN U) {m : Str} (hm : m ∈ inM) : ∃ esN' rsN', B9 D n rs0 st0 (enterD E m).1 esN' rsN' U := by
  obtain ⟨y, r, rfl⟩ := h.lv.cons
  have lv := h.lv
  have ed : enterD E m = lvlD E m n y (r ++ rs0) st0 := by
    unfold enterD; rw [h.e]; rfl
  have ej : B9 D n rs0 st0 (plainD E "joined") ("joined" :: esN) (y :: r) U := ⟨h.d, by rw [h.e]; rfl, .joined lv, h.old, h.new⟩
  rw [ed]
  simp only [inM, List.mem_cons, List.not_mem_nil, or_false] at hm
  rcases hm with rfl | rfl | rfl | rfl
  · exact ⟨_, _, ej⟩
  · exact ⟨_, _, ej⟩
  · exact ⟨_, _, ej⟩
  · unfold lvlD
    rw [if_neg (by decide +kernel), if_pos (by decide +kernel)]
    cases y with
    | some z => exact ⟨_, _, h⟩
    | none =>
      refine ⟨"level" :: esN, none :: none :: r, h.d, by rw [h.e]; rfl, .level lv, h.old, fun x hx => ?_⟩
      rcases h.new x hx with q | ⟨q1, q2, q3, q4⟩
      · exact .inl q
      · refine .inr ⟨q1, q2, q3, ?_⟩
        simp only [List.length_cons] at q4 ⊢
        omega
theorem B9.doom (h : B9 D n rs0 st0 E esN rsN U) (z : Str) : ∃ rsN', B9 D n rs0 st0 (doomD E z) esN rsN' U := by
  obtain ⟨y, r, rfl⟩ := h.lv.cons
  unfold doomD
  rw [h.e]
  cases y with
  | some y => exact ⟨some y :: r, h.d, rfl, h.lv, h.old, h.new⟩
  | none => exact ⟨some z :: r, h.d, rfl, h.lv.head, h.old, h.new⟩
theorem B9.write (h : B9 D n rs0 st0 E esN rsN U) (z : Str) (v : V) : ∃ U', B9 D n rs0 st0 (writeD E z v).1 esN rsN U' := by
  obtain ⟨y, r, rfl⟩ := h.lv.cons
  have es : E.stack = some ⟨n, y :: (r ++ rs0)⟩ :: st0 := by rw [h.e]; rfl
  cases y with
  | some y =>
    have ew : writeD E z v = (E, some (.doomed y)) := by unfold writeD; rw [es]
    rw [ew]
    exact ⟨U, h⟩
  | none =>
    have ew : writeD E z v = if z ∈ outerL E then (E, some (.waits z)) else (addD E ⟨z, v, "open", n, (r ++ rs0).length⟩, none) := by unfold writeD; rw [es]
    rw [ew]
    split
    · exact ⟨U, h⟩
    · refine ⟨U ++ [⟨z, v, "open", n, (r ++ rs0).length⟩], h.d, ?_, h.lv, h.old, fun x hx => ?_⟩
      · rw [← List.append_assoc]
        have e1 := congrArg Db.rows h.e
        have e2 := congrArg Db.stack h.e
        have e3 := congrArg Db.entered h.e
        have e4 := congrArg Db.floor h.e
        have e5 := congrArg Db.opened h.e
        dsimp only at e1 e2 e3 e4 e5
        show Db.mk (E.rows ++ [_]) E.stack E.entered E.floor E.opened = _
        rw [e1, e2, e3, e4, e5]
      · rcases List.mem_append.mp hx with hx | hx
        · exact h.new x hx
        · cases List.mem_singleton.mp hx
          refine .inr ⟨rfl, rfl, ?_, ?_⟩
          · show (rs0.length : Int) ≤ ((r ++ rs0).length : Int)
            rw [List.length_append]; omega
          · show ((r ++ rs0).length : Int) < _
            rw [List.length_append, List.length_cons]; omega
theorem endL_old {rows : List Row} {t : Int} {ok : Bool} (h : ∀ r ∈ rows, r.fate = "open" → r.holder = n → r.level < t) : rows.map (endLRow n t ok) = rows := by
  have : ∀ r ∈ rows, endLRow n t ok r = id r := fun r hr => if_neg fun c => by
    have := h r hr c.1 c.2.1
    omega
  rw [List.map_congr_left this, List.map_id]
theorem B9.leave {e : Str} {es : List Str} {err : Option Str} {c : Bool} (h : B9 D n rs0 st0 E (e :: es) rsN U) (hf : D.floor = 0) : ∃ rsN' U', B9 D n rs0 st0 (leaveD E err c).1 es rsN' U' := by
  have lv := h.lv
  have hE := h.e
  have c0 : ¬ (E.entered.length : Int) ≤ E.floor := by
    rw [hE]
    show ¬ ((e :: es ++ ("level" : Str) :: D.entered).length : Int) ≤ D.floor
    rw [hf, List.cons_append, List.length_cons]; omega
  unfold leaveD
  rw [if_neg c0]
  unfold leaveW
  rw [show E.entered = e :: (es ++ ("level" : Str) :: D.entered) by rw [hE]; rfl]
  dsimp only
  cases lv with
  | @joined _ y rs lv =>
    rw [if_neg (by decide +kernel), if_pos rfl]
    have h' : B9 D n rs0 st0 { E with entered := es ++ ("level" : Str) :: D.entered } es (y :: rs) U := ⟨h.d, by rw [hE], lv, h.old, h.new⟩
    cases err with
    | none => exact ⟨_, _, h'⟩
    | some z =>
      obtain ⟨rsN', q⟩ := h'.doom z
      exact ⟨_, _, q⟩
  | @level _ y z rs lv =>
    rw [if_neg (by decide +kernel), if_neg (by decide +kernel), if_pos rfl]
    unfold endLD
    rw [show ({ E with entered := es ++ ("level" : Str) :: D.entered } : Db).stack = some ⟨n, y :: (z :: (rs ++ rs0))⟩ :: st0 by rw [hE]; rfl]
    dsimp only
    have lz : ((z :: (rs ++ rs0)).length : Int) = rs.length + rs0.length + 1 := by
      rw [List.length_cons, List.length_append]; omega
    refine ⟨z :: rs, U.map (endLRow n (z :: (rs ++ rs0)).length (err.isNone && y.isNone)), h.d, ?_, lv, h.old, fun x hx => ?_⟩
    · have e1 := congrArg Db.rows hE
      have e4 := congrArg Db.floor hE
      have e5 := congrArg Db.opened hE
      dsimp only at e1 e4 e5
      rw [e1, e4, e5, List.map_append, endL_old (rows := D.rows) fun r hr a b => by have := h.old r hr a b; omega]
      rfl
    · obtain ⟨x0, h0, rfl⟩ := List.mem_map.mp hx
      unfold endLRow
      rcases h.new x0 h0 with q | ⟨q1, q2, q3, q4⟩
      · rw [if_neg fun c => undone_open (q.symm.trans c.1)]
        exact .inl q
      · simp only [List.length_cons] at q4 ⊢
        split
        · rename_i cc
          split
          · refine .inr ⟨q1, q2, ?_, ?_⟩
            · show (rs0.length : Int) ≤ _ - 1
              rw [List.length_append]; omega
            · show _ - 1 < _
              rw [List.length_append]; omega
          · exact .inl rfl
        · rename_i cc
          refine .inr ⟨q1, q2, q3, ?_⟩
          have : ¬ x0.level = ((rs ++ rs0).length + 1 : Nat) := fun e => cc ⟨q1, q2, e⟩
          rw [List.length_append] at this
          omega
theorem B9.close {err : Option Str} {c : Bool} (h : B9 D n rs0 st0 E [] rsN U) (hf : D.floor = 0) (hd : err = none → ∃ z, rsN = [some z]) : R9 D (leaveD E err c).1 ∧ (err = none → (leaveD E err c).2 ≠ none) ∧ (err ≠ none → (leaveD E err c).2 = none) := by
  have lv := h.lv
  have hE := h.e
  have c0 : ¬ (E.entered.length : Int) ≤ E.floor := by
    rw [hE]
    show ¬ ((("level" : Str) :: D.entered).length : Int) ≤ D.floor
    rw [hf, List.length_cons]; omega
  obtain ⟨y, rfl⟩ : ∃ y, rsN = [y] := by cases lv; exact ⟨_, rfl⟩
  have ok : (err.isNone && y.isNone) = false := by
    cases err with
    | some z => rfl
    | none =>
      obtain ⟨z, e⟩ := hd rfl
      cases e; rfl
  have el : leaveD E err c = (⟨D.rows ++ U.map (endLRow n rs0.length false), some ⟨n, rs0⟩ :: st0, D.entered, D.floor, D.opened⟩, endE err y true) := by
    unfold leaveD
    rw [if_neg c0]
    unfold leaveW
    rw [show E.entered = ("level" : Str) :: D.entered by rw [hE]; rfl]
    dsimp only
    rw [if_neg (by decide +kernel), if_neg (by decide +kernel), if_pos rfl]
    unfold endLD
    rw [show ({ E with entered := D.entered } : Db).stack = some ⟨n, y :: rs0⟩ :: st0 by rw [hE]; rfl]
    dsimp only
    have e1 := congrArg Db.rows hE
    have e4 := congrArg Db.floor hE
    have e5 := congrArg Db.opened hE
    dsimp only at e1 e4 e5
    rw [ok, e1, e4, e5, List.map_append, endL_old (rows := D.rows) fun r hr a b => by have := h.old r hr a b; omega]
  rw [el]
  refine ⟨⟨?_, ?_⟩, fun e => ?_, fun e => ?_⟩
  · have := h.d
    show Db.mk _ _ _ _ _ = Db.mk _ _ _ _ _
    rw [this]
  · show liveR (D.rows ++ U.map (endLRow n rs0.length false)) = liveR D.rows
    rw [live_app]
    have : liveR (U.map (endLRow n rs0.length false)) = [] := by
      unfold liveR
      rw [List.filter_eq_nil_iff]
      intro x hx
      obtain ⟨x0, h0, rfl⟩ := List.mem_map.mp hx
      unfold endLRow
      rcases h.new x0 h0 with q | ⟨q1, q2, q3, q4⟩
      · rw [if_neg fun c => undone_open (q.symm.trans c.1)]
        simp [q]
      · simp only [List.length_cons, List.length_nil] at q4
        rw [if_pos ⟨q1, q2, by omega⟩, if_neg (by decide)]
        simp
    rw [this, List.append_nil]
  · obtain ⟨z, e2⟩ := hd e
    cases e2
    subst e
    exact fun z => nomatch z
  · cases err with
    | none => exact absurd rfl e
    | some z => rfl
end
/-! ### _law_try -/
def errs (a : Ad) : List Addr := [a.Missing, a.Present, a.Doomed, a.Refused, a.NoBlock, a.Waits, a.NoRecord, a.BadWord, a.BadMode]
theorem errE_of {a : Ad} {e : EK} {H : Hp} {E : XK} (k : ∀ C d H2, C ∈ errs a → Same H H2 → E (.ref C) d H2) : errE a e H E := by
  cases e
  case refused => exact fun d hd => k _ _ _ (by simp [errs]) ((Same.refl H).new hd)
  case noblock => exact k _ _ _ (by simp [errs]) (Same.refl H)
  all_goals exact fun d hd => k _ _ _ (by simp [errs]) ((Same.refl H).new hd)
theorem exm_base (T : Txt K mg a d) : ∀ C ∈ errs a, PySem.W.exmOne K (.ref C) (.ref a.InnercommitsError) = some true := by
  intro C hC
  simp only [errs, List.mem_cons, List.not_mem_nil, or_false] at hC
  rcases hC with rfl | rfl | rfl | rfl | rfl | rfl | rfl | rfl | rfl
  · exact T.x_Missing_InnercommitsError
  · exact T.x_Present_InnercommitsError
  · exact T.x_Doomed_InnercommitsError
  · exact T.x_Refused_InnercommitsError
  · exact T.x_NoBlock_InnercommitsError
  · exact T.x_Waits_InnercommitsError
  · exact T.x_NoRecord_InnercommitsError
  · exact T.x_BadWord_InnercommitsError
  · exact T.x_BadMode_InnercommitsError
def tryV (D : Db) (m z : Str) (i : Int) : Db × Option EK :=
  if m = "leave" then leaveV D .non true else if m = "fail" then leaveV D (.str z) true else if m = "write" then setV D (.str z) (.int i) else if m = "doom" then doomV D (.str z) else enterV D (.str m)
def tryS (r : Db × Option EK) : Str := if r.2.isSome = true then "error" else ""
def spTry (a : Ad) : Sp := fun vs H Q _ => ∃ L D m z i, vs = [.ref L.db, .str m, .str z, .int i] ∧ Thing H (.str m) ∧ Thing H (.str z) ∧ DB a H L D ∧ Sm D ∧ 0 ≤ D.floor ∧ Wf D.entered D.stack ∧
  ∀ H' L', DB a H' L' (tryV D m z i).1 → Fr H H' L L' → Q (.str (tryS (tryV D m z i))) H'
theorem str_ite {m z : Str} : (decide (V.str m = V.str z) = true) ↔ m = z := by
  rw [decide_eq_true_eq]
  exact ⟨fun h => V.str.inj h, fun h => congrArg V.str h⟩
theorem ok_law_try (T : Txt K mg a d) : FnOk P w K mg base CX0 6 a.law_try d.law_try ["_law_db", "_law_deed", "_law_word_here", "_law_value"] (spTry a) := by
  have G_Database_enter : FnOk P w K mg base (L2.CX P w) 5 a.Database_enter d.Database_enter ["self", "mode"] (spEnter a) := ok_Database_enter T
  have G_Database_leave : FnOk P w K mg base (L2.CX P w) 3 a.Database_leave d.Database_leave ["self", "error", "commits"] (spLeave a) := ok_Database_leave T
  have G_Database_doom : FnOk P w K mg base (L2.CX P w) 2 a.Database_doom d.Database_doom ["self", "first"] (spDoom a) := ok_Database_doom T
  have G_DatabaseU_setitemU : FnOk P w K mg base (L2.CX P w) 5 a.DatabaseU_setitemU d.DatabaseU_setitemU ["self", "record", "value"] (spSet a) := ok_DatabaseU_setitemU T
  obtain ⟨_, vl_leave, bl_leave⟩ := bd_leave0 T
  obtain ⟨_, vl_leave1, bl_leave1⟩ := bd_leave1 T
  refine T.law_try.ok sc_law_try (fun vs H Q E h => ?_) (fun cdv A outer s H vs Q E hr h => ?_)
  · obtain ⟨L, D, m, z, i, rfl, _⟩ := h
    rfl
  · obtain ⟨L, D, m, z, i, rfl, tm, tz, hD, hm, hf, hw, k⟩ := h
    have hx := hD.db
    have bad : ∀ {r : Db × Option EK} {H1 : Hp} {L1 : Lay}, (∀ H' L', DB a H' L' r.1 → Fr H H' L L' → Q (.str (tryS r)) H') → DB a H1 L1 r.1 → Fr H H1 L L1 → ∀ e, r.2 = some e → ∀ H2, Same H1 H2 → Q (.str "error") H2 := fun {r H1 L1} k hD1 f1 e he H2 s2 => by
      have := k H2 L1 (hD1.keep fun b u _ e => s2 b u e) (f1.trans (Fr.same s2))
      unfold tryS at this
      rw [he] at this
      exact this
    have good : ∀ {r : Db × Option EK} {H1 : Hp} {L1 : Lay}, (∀ H' L', DB a H' L' r.1 → Fr H H' L L' → Q (.str (tryS r)) H') → DB a H1 L1 r.1 → Fr H H1 L L1 → r.2 = none → Q (.str "") H1 := fun {r H1 L1} k hD1 f1 he => by
      have := k H1 L1 hD1 f1
      unfold tryS at this
      rw [he] at this
      exact this
    refine ⟨_, (pss_cons (ps_tryA rfl rfl sc_law_try.nd takes0 (fun W pn xe tk po => (pss_one (ps_if (pt_cmpR op_eq (pv 1) pe_str (nomark _)) (pss_one (ps_expr (pe_methSD0 (pv 0) T.k_Database T.m_Database_leave G_Database_leave (hr.mono (by decide)) bl_leave vl_leave (fun σ => passAt tk σ)))) (pss_one (ps_if (pt_cmpR op_eq (pv 1) pe_str (nomark _)) (pss_one (ps_expr (pe_methSD (pv 0) T.k_Database T.m_Database_leave G_Database_leave (hr.mono (by decide)) bl_leave1 vl_leave1 (fun σ => passAt tk σ) (pa_cons (pv 2) pa_nil)))) (pss_one (ps_if (pt_cmpR op_eq (pv 1) pe_str (nomark _)) (pss_one (ps_asg (pv 3) (pg_setO (pv 0) (pv 2) T.m_DatabaseU_setitemU T.ns_Database G_DatabaseU_setitemU (hr.mono (by decide)) T.b_DatabaseU_setitemU (fun σ => passAt tk σ)))) (pss_one (ps_if (pt_cmpR op_eq (pv 1) pe_str (nomark _)) (pss_one (ps_expr (pe_methSD (pv 0) T.k_Database T.m_Database_doom G_Database_doom (hr.mono (by decide)) (bd_doom T) .nil (fun σ => passAt tk σ) (pa_cons (pv 2) pa_nil)))) (pss_one (ps_expr (pe_methSD (pv 0) T.k_Database T.m_Database_enter G_Database_enter (hr.mono (by decide)) T.b_Database_enter .nil (fun σ => passAt tk σ) (pa_cons (pv 1) pa_nil))))))))))))) (.cons (.intro (by rfl) (And.intro (by decide) (Or.inl T.g_InnercommitsError))) (fun _ _ _ _ _ hz hf => (pss_one (ps_ret pe_str))) .nil))
  (pss_one (ps_ret pe_str))), ?_⟩
    dsimp only [cxOf]
    unfold tryV at k
    walk_at "rd"
    refine ite2 (fun b1 => ?_) (fun b1 => ?_)
    · rw [if_pos (str_ite.mp b1)] at k
      walk_at "rd"
      refine ⟨L, D, .non, true, rfl, .non, hD, hm, hf, hw, fun H1 L1 hD1 f1 => ?_⟩
      generalize leaveV D .non true = r at k hD1 ⊢
      cases er : r.2 with
      | none =>
        walk_at "rd"
        exact good k hD1 f1 er
      | some e =>
        refine errE_of fun C dd H2 hC s2 => ⟨true, exm_base T C hC, fun _ x hx => ?_, (fun z => by cases z)⟩
        unfold wCl
        walk_at "rd"
        exact bad k hD1 f1 e er H2 s2
    rw [if_neg fun e => b1 (str_ite.mpr e)] at k
    walk_at "rd"
    refine ite2 (fun b2 => ?_) (fun b2 => ?_)
    · rw [if_pos (str_ite.mp b2)] at k
      walk_at "rd"
      refine ⟨L, D, .str z, true, rfl, tz, hD, hm, hf, hw, fun H1 L1 hD1 f1 => ?_⟩
      generalize leaveV D (.str z) true = r at k hD1 ⊢
      cases er : r.2 with
      | none =>
        walk_at "rd"
        exact good k hD1 f1 er
      | some e =>
        refine errE_of fun C dd H2 hC s2 => ⟨true, exm_base T C hC, fun _ x hx => ?_, (fun z => by cases z)⟩
        unfold wCl
        walk_at "rd"
        exact bad k hD1 f1 e er H2 s2
    rw [if_neg fun e => b2 (str_ite.mpr e)] at k
    walk_at "rd"
    refine ite2 (fun b3 => ?_) (fun b3 => ?_)
    · rw [if_pos (str_ite.mp b3)] at k
      walk_at "rd"
      refine ⟨L, D, .str z, .int i, rfl, tz, hD, hm, fun H1 L1 hD1 f1 => ?_⟩
      generalize setV D (.str z) (.int i) = r at k hD1 ⊢
      cases er : r.2 with
      | none =>
        walk_at "rd"
        exact good k hD1 f1 er
      | some e =>
        refine errE_of fun C dd H2 hC s2 => ⟨true, exm_base T C hC, fun _ x hx => ?_, (fun z => by cases z)⟩
        unfold wCl
        walk_at "rd"
        exact bad k hD1 f1 e er H2 s2
    rw [if_neg fun e => b3 (str_ite.mpr e)] at k
    walk_at "rd"
    refine ite2 (fun b4 => ?_) (fun b4 => ?_)
    · rw [if_pos (str_ite.mp b4)] at k
      walk_at "rd"
      refine ⟨L, D, .str z, rfl, tz, hD, fun H1 L1 hD1 f1 => ?_⟩
      generalize doomV D (.str z) = r at k hD1 ⊢
      cases er : r.2 with
      | none =>
        walk_at "rd"
        exact good k hD1 f1 er
      | some e =>
        refine errE_of fun C dd H2 hC s2 => ⟨true, exm_base T C hC, fun _ x hx => ?_, (fun z => by cases z)⟩
        unfold wCl
        walk_at "rd"
        exact bad k hD1 f1 e er H2 s2
    rw [if_neg fun e => b4 (str_ite.mpr e)] at k
    walk_at "rd"
    refine ⟨L, D, .str m, rfl, tm, hD, hm, fun H1 L1 hD1 f1 => ?_⟩
    generalize enterV D (.str m) = r at k hD1 ⊢
    cases er : r.2 with
    | none =>
      walk_at "rd"
      exact good k hD1 f1 er
    | some e =>
      refine errE_of fun C dd H2 hC s2 => ⟨true, exm_base T C hC, fun _ x hx => ?_, (fun z => by cases z)⟩
      unfold wCl
      walk_at "rd"
      exact bad k hD1 f1 e er H2 s2
/-! ### what is shown of a database, as data -/
structure Okd (d : PyData) (k m : Nat) : Prop where
  s : d.showable = true
  dp : d.depth ≤ k
  l : d.shown.length ≤ m
theorem showAll : ∀ {xs : List PyData}, (∀ x ∈ xs, x.showable = true) → PyData.showableAll xs = true
  | [], _ => rfl
  | x :: xs, h => by
    show (x.showable && PyData.showableAll xs) = true
    rw [h x List.mem_cons_self, showAll fun y hy => h y (List.mem_cons_of_mem _ hy)]; rfl
theorem depAll {k : Nat} : ∀ {xs : List PyData}, (∀ x ∈ xs, x.depth ≤ k) → PyData.depthAll xs ≤ k
  | [], _ => Nat.zero_le _
  | x :: xs, h => by
    show max x.depth (PyData.depthAll xs) ≤ k
    have h1 := h x List.mem_cons_self
    have h2 := depAll fun y hy => h y (List.mem_cons_of_mem _ hy)
    omega
theorem lenAll {m : Nat} : ∀ {xs : List PyData}, (∀ x ∈ xs, x.shown.length ≤ m) → ((PyData.shownAll xs).map (·.length)).sum ≤ xs.length * m ∧ (PyData.shownAll xs).length = xs.length
  | [], _ => ⟨Nat.zero_le _, rfl⟩
  | x :: xs, h => by
    obtain ⟨h1, h2⟩ := lenAll fun y hy => h y (List.mem_cons_of_mem _ hy)
    have h3 := h x List.mem_cons_self
    refine ⟨?_, ?_⟩
    · show x.shown.length + ((PyData.shownAll xs).map (·.length)).sum ≤ (xs.length + 1) * m
      rw [Nat.add_mul]; omega
    · show (PyData.shownAll xs).length + 1 = xs.length + 1
      rw [h2]
theorem Okd.mul {a b n m : Nat} (h : a ≤ n * m + 2 * n + 3) (h2 : n ≤ b) : a ≤ b * (m + 2) + 3 := by
  have : n * (m + 2) ≤ b * (m + 2) := Nat.mul_le_mul_right _ h2
  rw [Nat.mul_add] at this
  omega
theorem Okd.lst {xs : List PyData} {k m n : Nat} (h : ∀ x ∈ xs, Okd x k m) (hn : xs.length ≤ n) : Okd (.list xs) (k + 1) (n * (m + 2) + 3) := by
  obtain ⟨l1, l2⟩ := lenAll (m := m) fun x hx => (h x hx).l
  refine ⟨showAll fun x hx => (h x hx).s, Nat.succ_le_succ (depAll fun x hx => (h x hx).dp), ?_⟩
  have := listText_len_le (PyData.shownAll xs)
  rw [l2] at this
  exact Okd.mul (Nat.le_trans this (Nat.add_le_add_right (Nat.add_le_add_right l1 _) _)) hn
theorem Okd.tup {xs : List PyData} {k m n : Nat} (h : ∀ x ∈ xs, Okd x k m) (hn : xs.length ≤ n) : Okd (.tuple xs) (k + 1) (n * (m + 2) + 3) := by
  obtain ⟨l1, l2⟩ := lenAll (m := m) fun x hx => (h x hx).l
  refine ⟨showAll fun x hx => (h x hx).s, Nat.succ_le_succ (depAll fun x hx => (h x hx).dp), ?_⟩
  have := tupleText_len_le (PyData.shownAll xs)
  rw [l2] at this
  exact Okd.mul (Nat.le_trans this (Nat.add_le_add_right (Nat.add_le_add_right l1 _) _)) hn
theorem kvAll {k m : Nat} : ∀ {xs : List (PyData × PyData)}, (∀ x ∈ xs, Okd x.1 k m ∧ Okd x.2 k m) → PyData.showableKv xs = true ∧ PyData.depthKv xs ≤ k ∧ ((PyData.shownKv xs).map (·.length)).sum ≤ xs.length * (2 * m + 2) ∧ (PyData.shownKv xs).length = xs.length
  | [], _ => ⟨rfl, Nat.zero_le _, Nat.zero_le _, rfl⟩
  | (a, b) :: xs, h => by
    obtain ⟨h1, h2, h3, h4⟩ := kvAll fun y hy => h y (List.mem_cons_of_mem _ hy)
    obtain ⟨h5, h6⟩ := h (a, b) List.mem_cons_self
    refine ⟨?_, ?_, ?_, ?_⟩
    · show (a.showable && b.showable && PyData.showableKv xs) = true
      rw [h1, h5.s, h6.s]; rfl
    · show max (max a.depth b.depth) (PyData.depthKv xs) ≤ k
      have := h5.dp
      have := h6.dp
      dsimp only at *
      omega
    · show (a.shown ++ ": " ++ b.shown).length + ((PyData.shownKv xs).map (·.length)).sum ≤ (xs.length + 1) * (2 * m + 2)
      have e : (a.shown ++ ": " ++ b.shown).length = a.shown.length + 2 + b.shown.length := by
        rw [Str.length_append, Str.length_append]
        have : ((": " : Str)).length = 2 := by decide +kernel
        rw [this]
      rw [e, Nat.add_mul]
      have := h5.l
      have := h6.l
      dsimp only at *
      omega
    · show (PyData.shownKv xs).length + 1 = xs.length + 1
      rw [h4]
theorem Okd.dct {xs : List (PyData × PyData)} {k m n : Nat} (h : ∀ x ∈ xs, Okd x.1 k m ∧ Okd x.2 k m) (hn : xs.length ≤ n) : Okd (.dict xs) (k + 1) (n * (2 * m + 2 + 2) + 3) := by
  obtain ⟨h1, h2, h3, h4⟩ := kvAll h
  refine ⟨h1, Nat.succ_le_succ h2, ?_⟩
  have := dictText_len_le (PyData.shownKv xs)
  rw [h4] at this
  exact Okd.mul (Nat.le_trans this (Nat.add_le_add_right (Nat.add_le_add_right h3 _) _)) hn
theorem Okd.up {d : PyData} {k m k' m' : Nat} (h : Okd d k m) (h1 : k ≤ k') (h2 : m ≤ m') : Okd d k' m' := ⟨h.s, Nat.le_trans h.dp h1, Nat.le_trans h.l h2⟩
theorem okd_word {z : Str} (h : IsWord z) : Okd (.str z) 0 100 := by
  refine ⟨rfl, Nat.le_refl 0, ?_⟩
  show (reprText z).length ≤ 100
  have := StrLaws.reprText_len z fun c hc => by have := h.al c hc; omega
  have h2 := h.hi
  rw [len_toList] at h2
  omega
theorem okd_non : Okd .none 0 100 := ⟨rfl, Nat.le_refl 0, by show ("None" : Str).length ≤ 100; decide +kernel⟩
theorem okd_bool (b : Bool) : Okd (.bool b) 0 100 := ⟨rfl, Nat.le_refl 0, by cases b <;> decide +kernel⟩
theorem log_120 {i : Int} (h : i.natAbs < 2 ^ 120) : i.natAbs.log2 < 1920 := by
  by_cases h0 : i.natAbs = 0
  · rw [h0]; decide
  · exact (Nat.log2_lt h0).mpr (Nat.lt_of_lt_of_le h (Nat.pow_le_pow_right (by decide) (by decide)))
theorem okd_int {i : Int} (h : i.natAbs < 2 ^ 120) : Okd (.int i) 0 4000 := by
  have hl := log_120 h
  refine ⟨decide_eq_true hl, Nat.le_refl 0, ?_⟩
  show (Str.ofString (toString i)).length ≤ 4000
  have e := int_text_length_le (k := 1920) (by decide) hl
  rw [ofString_length]; omega
def oD : Option Str → PyData
  | none => .none
  | some z => .str z
theorem okd_o {y : Option Str} (h : ∀ z, y = some z → IsWord z) : Okd (oD y) 0 100 := by
  cases y with
  | none => exact okd_non
  | some z => exact okd_word (h z rfl)
theorem dq_o {K : PySem.W.Frag} {H : Hp} : ∀ y : Option Str, Dq K H (oV y) (oD y)
  | none => .non
  | some z => .str z
def valD : V → PyData
  | .int i => .int i
  | _ => .none
def rowD (r : Row) : PyData := .tuple [.str r.rcd, valD r.val, .str r.fate]
def kvD (kvs : List (Key × V)) : List (PyData × PyData) := kvs.map fun p => (kD p.1, valD p.2)
theorem okd_fate {r : Row} (h : RdOk r) : Okd (.str r.fate) 0 100 := by
  rcases h.2.2 with e | e | e <;> rw [e] <;> exact ⟨rfl, Nat.le_refl 0, by show (reprText _).length ≤ 100; decide +kernel⟩
theorem okd_row {r : Row} (h : RdOk r) : Okd (rowD r) 1 12100 := by
  obtain ⟨i, e, hi⟩ := h.2.1
  unfold rowD
  rw [e]
  refine (Okd.tup (k := 0) (m := 4000) (n := 3) (fun x hx => ?_) (Nat.le_refl _)).up (Nat.le_refl _) (by omega)
  simp only [List.mem_cons, List.not_mem_nil, or_false] at hx
  rcases hx with rfl | rfl | rfl
  · exact (okd_word h.1).up (Nat.le_refl _) (by omega)
  · exact okd_int hi
  · exact (okd_fate h).up (Nat.le_refl _) (by omega)
theorem put_mem {kvs : List (Key × V)} {k : Key} {v : V} {p : Key × V} (h : p ∈ putK kvs k v) : p ∈ kvs ∨ p = (k, v) := by
  unfold putK at h
  split at h
  · obtain ⟨q, hq, e⟩ := List.mem_map.mp h
    by_cases c : q.1 = k
    · rw [if_pos c, c] at e
      exact .inr e.symm
    · rw [if_neg c] at e
      exact .inl (e ▸ hq)
  · rcases List.mem_append.mp h with h | h
    · exact .inl h
    · exact .inr (List.mem_singleton.mp h)
theorem kept_mem : ∀ (rows : List Row) (kvs : List (Key × V)) (p : Key × V), p ∈ rows.foldl keptS kvs → p ∈ kvs ∨ ∃ r ∈ rows, p = (.inr r.rcd, r.val)
  | [], kvs, p, h => .inl h
  | r :: rs, kvs, p, h => by
    rcases kept_mem rs _ p h with h | ⟨r', h1, h2⟩
    · unfold keptS at h
      split at h
      · rcases put_mem h with h | h
        · exact .inl h
        · exact .inr ⟨r, List.mem_cons_self, h⟩
      · exact .inl h
    · exact .inr ⟨r', List.mem_cons_of_mem _ h1, h2⟩
theorem ord_mem {kvs : List (Key × V)} : ∀ (xs : List Str) (acc : List (Key × V)) (p : Key × V), p ∈ xs.foldl (ordS kvs) acc → p ∈ acc ∨ ∃ z ∈ xs, p = (.inr z, (valV kvs (.inr z)).getD .non)
  | [], acc, p, h => .inl h
  | z :: xs, acc, p, h => by
    rcases ord_mem xs _ p h with h | ⟨z', h1, h2⟩
    · rcases put_mem h with h | h
      · exact .inl h
      · exact .inr ⟨z, List.mem_cons_self, h⟩
    · exact .inr ⟨z', List.mem_cons_of_mem _ h1, h2⟩
theorem keptD_mem {D : Db} {p : Key × V} (h : p ∈ keptD D) : ∃ r ∈ D.rows, p = (.inr r.rcd, r.val) := by
  obtain ⟨xs, e, _, _⟩ := kept_fold D.rows [] [] rfl
  have e : (keptK D.rows).map (·.1) = xs.map Sum.inr := e
  have kd : keptD D = (sortT xs).foldl (ordS (keptK D.rows)) [] := by
    unfold keptD ordK
    rw [strK_of e]
  rw [kd] at h
  rcases ord_mem _ _ _ h with h | ⟨z, hz, h⟩
  · cases h
  obtain ⟨v, hv⟩ := val_some e (sortT_mem.mp hz)
  rw [hv] at h
  have m : ((.inr z : Key), v) ∈ keptK D.rows := by
    unfold valV at hv
    obtain ⟨q, hq, e2⟩ := Option.map_eq_some_iff.mp hv
    have h1 := List.mem_of_find?_eq_some hq
    have h2 := List.find?_some hq
    rw [decide_eq_true_eq] at h2
    obtain ⟨q1, q2⟩ := q
    dsimp only at e2 h2
    rw [← e2, ← h2]; exact h1
  rcases kept_mem _ _ _ m with m | ⟨r, hr, e3⟩
  · cases m
  · exact ⟨r, hr, h.trans e3⟩
theorem keptD_len (D : Db) : (keptD D).length ≤ D.rows.length := by
  obtain ⟨xs, e, _, l⟩ := kept_fold D.rows [] [] rfl
  have e : (keptK D.rows).map (·.1) = xs.map Sum.inr := e
  have kd : keptD D = (sortT xs).foldl (ordS (keptK D.rows)) [] := by
    unfold keptD ordK
    rw [strK_of e]
  rw [kd]
  have := ord_len (kvs := keptK D.rows) (sortT xs) []
  rw [sortT_len] at this
  simp only [List.length_nil] at this l
  omega
theorem dq_kv {K : PySem.W.Frag} {H : Hp} : ∀ {kvs : List (Key × V)}, (∀ p ∈ kvs, ∃ i, p.2 = .int i) → DqKv K H kvs (kvD kvs)
  | [], _ => .nil
  | (k, v) :: r, h => by
    obtain ⟨i, e⟩ := h (k, v) List.mem_cons_self
    dsimp only at e
    subst e
    exact .cons (.int i) (dq_kv fun p hp => h p (List.mem_cons_of_mem _ hp))
theorem dq_strs {K : PySem.W.Frag} {H : Hp} : ∀ ys : List Str, DqAll K H (ys.map V.str) (ys.map PyData.str)
  | [] => .nil
  | y :: r => .cons (.str y) (dq_strs r)
theorem dq_row {K : PySem.W.Frag} {H : Hp} {t : Addr} {r : Row} (h : TupAt H t r) (hr : RdOk r) : Dq K H (.ref t) (rowD r) := by
  obtain ⟨i, e, _⟩ := hr.2.1
  have h : H t = some (.tup [.str r.rcd, r.val, .str r.fate]) := h
  unfold rowD
  rw [e] at h ⊢
  exact .tup (SqT.of h) (.cons (.str _) (.cons (.int i) (.cons (.str _) .nil)))
theorem dq_rows {K : PySem.W.Frag} {H : Hp} : ∀ {ts : List Addr} {rs : List Row}, All2 (TupAt H) ts rs → (∀ r ∈ rs, RdOk r) → DqAll K H (ts.map V.ref) (rs.map rowD)
  | _, _, .nil, _ => .nil
  | _, _, .cons h t, hr => .cons (dq_row h (hr _ List.mem_cons_self)) (dq_rows t fun r m => hr r (List.mem_cons_of_mem _ m))
def seenD (D : Db) (rows : List Row) : PyData := .list [.list [.bool (openD D), .bool (reasonD D).isSome, oD (reasonD D), .int (levelsD D : Int), .int (D.entered.length : Int)], .list ((ownL D).map PyData.str), .list ((outerL D).map PyData.str), .dict (kvD (keptD D)), .list (rows.map rowD)]
theorem held_words {D : Db} (h : ∀ r ∈ D.rows, RdOk r) (ns : List Int) : ∀ z ∈ sortT (heldL D.rows ns), IsWord z := fun z hz => by
  obtain ⟨r, hr, _, _, e⟩ := held_mem.mp (sortT_mem.mp hz)
  exact e ▸ (h r hr).1
theorem nat_small {n : Nat} (h : n ≤ 1000000) : ((n : Int)).natAbs < 2 ^ 120 := by
  rw [Int.natAbs_natCast]
  exact Nat.lt_of_le_of_lt h (Nat.lt_of_lt_of_le (by decide : 1000000 < 2 ^ 20) (Nat.pow_le_pow_right (by decide) (by decide)))
theorem Gd.levels {D : Db} {m : Nat} (g : Gd D m) : levelsD D ≤ m := by
  have := g.e
  have l := g.wf.lenG.2
  unfold levelsD
  split
  · rename_i x st e
    have := (l x (by rw [e]; exact List.mem_cons_self)).1
    omega
  · omega
theorem Gd.reason {D : Db} {m : Nat} (g : Gd D m) : ∀ z, reasonD D = some z → IsWord z := fun z hz => by
  unfold reasonD at hz
  rcases g.top with ⟨st, e⟩ | ⟨k, y, rs, st, e⟩
  · rw [e] at hz; cases hz
  · rw [e] at hz
    dsimp only at hz
    exact g.w ⟨k, y :: rs⟩ (by rw [e]; exact List.mem_cons_self) z (by rw [← show y = some z from hz]; exact List.mem_cons_self)
theorem seen_ok {D : Db} {m : Nat} {rows : List Row} (g : Gd D m) (hm : m ≤ 200) (hr : ∀ r ∈ rows, RdOk r) (hl : rows.length ≤ m) : (seenD D rows).showable = true ∧ (seenD D rows).depth ≤ 60 ∧ (seenD D rows).shown.length ≤ sizeLine := by
  have ge := g.e
  have gr := g.r
  have h1 : Okd (.list [.bool (openD D), .bool (reasonD D).isSome, oD (reasonD D), .int (levelsD D : Int), .int (D.entered.length : Int)]) 1 (5 * (4000 + 2) + 3) := Okd.lst (k := 0) (fun x hx => by
    simp only [List.mem_cons, List.not_mem_nil, or_false] at hx
    rcases hx with rfl | rfl | rfl | rfl | rfl
    · exact (okd_bool _).up (Nat.le_refl _) (by omega)
    · exact (okd_bool _).up (Nat.le_refl _) (by omega)
    · exact (okd_o g.reason).up (Nat.le_refl _) (by omega)
    · exact okd_int (nat_small (by have := g.levels; omega))
    · exact okd_int (nat_small (by omega))) (Nat.le_refl _)
  have h2 : ∀ ns, Okd (.list ((sortT (heldL D.rows ns)).map PyData.str)) 1 (200 * (100 + 2) + 3) := fun ns => Okd.lst (k := 0) (fun x hx => by
    obtain ⟨z, hz, rfl⟩ := List.mem_map.mp hx
    exact okd_word (held_words g.rd ns z hz)) (by rw [List.length_map, sortT_len]; have := held_len (rows := D.rows) (ns := ns); omega)
  have h3 : Okd (.dict (kvD (keptD D))) 1 (200 * (2 * 4000 + 2 + 2) + 3) := Okd.dct (k := 0) (fun x hx => by
    obtain ⟨p, hp, rfl⟩ := List.mem_map.mp hx
    obtain ⟨r, hr, rfl⟩ := keptD_mem hp
    obtain ⟨w1, ⟨i, e, hi⟩, _⟩ := g.rd r hr
    dsimp only
    rw [e]
    exact ⟨(okd_word w1).up (Nat.le_refl _) (by omega), okd_int hi⟩) (by unfold kvD; rw [List.length_map]; have := keptD_len D; omega)
  have h4 : Okd (.list (rows.map rowD)) 2 (200 * (12100 + 2) + 3) := Okd.lst (k := 1) (fun x hx => by
    obtain ⟨r, h, rfl⟩ := List.mem_map.mp hx
    exact okd_row (hr r h)) (by rw [List.length_map]; omega)
  have h5 : Okd (seenD D rows) 3 (5 * (2500000 + 2) + 3) := Okd.lst (k := 2) (fun x hx => by
    simp only [List.mem_cons, List.not_mem_nil, or_false] at hx
    rcases hx with rfl | rfl | rfl | rfl | rfl
    · exact h1.up (by omega) (by omega)
    · exact (h2 _).up (by omega) (by omega)
    · exact (h2 _).up (by omega) (by omega)
    · exact h3.up (by omega) (by omega)
    · exact h4.up (by omega) (by omega)) (Nat.le_refl _)
  exact ⟨h5.s, by have := h5.dp; omega, by have := h5.l; rw [sizeLine_eq]; omega⟩
theorem map_ref0 {l : List Addr} {i : Nat} {v : V} (h : (l.map V.ref)[i]? = some v) : ∃ t, l[i]? = some t ∧ v = V.ref t := by
  rw [List.getElem?_map] at h
  cases e : l[i]? with
  | none => rw [e] at h; cases h
  | some t =>
    rw [e] at h
    cases h
    exact ⟨t, rfl, rfl⟩
/-! ### _law_seen -/
def liveD (D : Db) : PyData := seenD D (liveR D.rows)
def spSeen9 (a : Ad) : Sp := fun vs H Q _ => ∃ L D m, vs = [.ref L.db] ∧ DB a H L D ∧ Gd D m ∧ m ≤ 200 ∧ ∀ H', Same H H' → Q (.str (liveD D).shown) H'
theorem All2.filter {α β : Type} {R : α → β → Prop} {p : β → Bool} : ∀ {l : List α} {m : List β}, All2 R l m → ∃ l', All2 R l' (m.filter p)
  | _, _, .nil => ⟨[], .nil⟩
  | _, _, .cons (x := x) (y := y) h t => by
    obtain ⟨l', q⟩ := t.filter (p := p)
    rw [List.filter_cons]
    split
    · exact ⟨x :: l', .cons h q⟩
    · exact ⟨l', q⟩
theorem live_take {rows : List Row} {i : Nat} {r : Row} (h : rows[i]? = some r) : liveR (rows.take (i + 1)) = liveR (rows.take i) ++ (if r.fate = "undone" then [] else [r]) := by
  rw [List.take_add_one, h, live_app]
  congr 1
  show liveR [r] = _
  rw [live_cons]
  rfl
theorem ok_law_seen (T : Txt K mg a d) : FnG P w K mg base CX0 5 a.law_seen d.law_seen ["_law_db"] (spSeen9 a) := by
  have G_Database_is_open : FnOk P w K mg base CX0 1 a.Database_is_open d.Database_is_open ["self"] (spProp a fun D => .bl (openD D)) := ok_Database_is_open T
  have G_Database_is_doomed : FnOk P w K mg base CX0 1 a.Database_is_doomed d.Database_is_doomed ["self"] (spProp a fun D => .bl (reasonD D).isSome) := ok_Database_is_doomed T
  have G_Database_reason : FnOk P w K mg base CX0 1 a.Database_reason d.Database_reason ["self"] (spProp a fun D => oV (reasonD D)) := ok_Database_reason T
  have G_Database_levels : FnOk P w K mg base CX0 1 a.Database_levels d.Database_levels ["self"] (spProp a fun D => .int (levelsD D : Int)) := ok_Database_levels T
  have G_Database_depth : FnOk P w K mg base CX0 1 a.Database_depth d.Database_depth ["self"] (spProp a fun D => .int (D.entered.length : Int)) := ok_Database_depth T
  have G_Database_fates : GFn P w K mg base 1 a.Database_fates d.Database_fates ["self"] (spFates a) := ok_Database_fates T
  have G_Database_held_records : FnOk P w K mg base CX0 2 a.Database_held_records d.Database_held_records ["self"] (spRecs a ownL) := ok_Database_held_records T
  have G_Database_outer_records : FnOk P w K mg base CX0 2 a.Database_outer_records d.Database_outer_records ["self"] (spRecs a outerL) := ok_Database_outer_records T
  have G_Database_kept_values : FnOk P w K mg base CX0 1 a.Database_kept_values d.Database_kept_values ["self"] (spKept a) := ok_Database_kept_values T
  refine okG T.law_seen sc_law_seen (fun vs H Q E h => ?_) (fun cdv A outer s H vs Q E hr hgd h => ?_)
  · obtain ⟨L, D, m, rfl, _⟩ := h
    rfl
  · obtain ⟨L, D, m, rfl, hD, g, hm2, k⟩ := h
    have hm := g.sm (by omega)
    have hx := hD.db
    refine ⟨_, (pss_cons (ps_set (i := 1) sc_law_seen.nd rfl (Or.inl rfl) (pe_lst (pa_cons (pe_prop (pv 0) T.k_Database T.m_Database_is_open G_Database_is_open (hr.mono (by decide)) T.b_Database_is_open .nil pass0 rfl) (pa_cons (pe_prop (pv 0) T.k_Database T.m_Database_is_doomed G_Database_is_doomed (hr.mono (by decide)) T.b_Database_is_doomed .nil pass0 rfl) (pa_cons (pe_prop (pv 0) T.k_Database T.m_Database_reason G_Database_reason (hr.mono (by decide)) T.b_Database_reason .nil pass0 rfl) (pa_cons (pe_prop (pv 0) T.k_Database T.m_Database_levels G_Database_levels (hr.mono (by decide)) T.b_Database_levels .nil pass0 rfl) (pa_cons (pe_prop (pv 0) T.k_Database T.m_Database_depth G_Database_depth (hr.mono (by decide)) T.b_Database_depth .nil pass0 rfl) pa_nil)))))))
  (pss_cons (ps_setLc (i := 2) (own := [("_law_row", 3)]) rfl sc_law_seen.nd rfl rfl (sw_true rfl rfl rfl (by decide +kernel)) (pi_list (pe_listG (pgen_meth0 (pv 0) T.k_Database T.m_Database_fates G_Database_fates (hr.mono (by decide)) T.b_Database_fates .nil) passL noStop0 (hr.mono (by decide)) (by rfl) T.n_list (by decide +kernel))) (blkOk_by (own := [("_law_row", 3)]) (N := ["_law_db", "_law_props", "_law_rows", "_law_row"]) (sc := defScope s_law_seen) (by decide +kernel)) (fun _ _ _ _ _ => (pg_name (i := 3) sc_law_seen.nd rfl (Or.inl rfl))) (fun _ _ _ _ _ => (pts_one (pt_cmpR op_ne (pe_ix (ix_tupK (K := K) rfl) (pv 3) pe_int (fun _ _ => rfl)) pe_str (nomark _)))) (fun _ _ _ _ _ => (pv 3)))
  (pss_one (ps_ret (pe_callB (call_reprD hgd hr.units) (by rfl) T.n_repr (by decide +kernel) (pa_cons (pe_lst (pa_cons (pv 1) (pa_cons (pe_meth0 (pv 0) T.k_Database T.m_Database_held_records G_Database_held_records (hr.mono (by decide)) T.b_Database_held_records .nil pass0) (pa_cons (pe_meth0 (pv 0) T.k_Database T.m_Database_outer_records G_Database_outer_records (hr.mono (by decide)) T.b_Database_outer_records .nil pass0) (pa_cons (pe_meth0 (pv 0) T.k_Database T.m_Database_kept_values G_Database_kept_values (hr.mono (by decide)) T.b_Database_kept_values .nil pass0) (pa_cons (pv 2) pa_nil)))))) pa_nil)))))), ?_⟩
    dsimp only [cxOf]
    walk_at "rd"
    refine ⟨L, D, rfl, hD, hm, ?_⟩
    walk_at "rd"
    refine ⟨L, D, rfl, hD, hm, ?_⟩
    walk_at "rd"
    refine ⟨L, D, rfl, hD, hm, ?_⟩
    walk_at "rd"
    refine ⟨L, D, rfl, hD, hm, ?_⟩
    walk_at "rd"
    refine ⟨L, D, rfl, hD, hm, ?_⟩
    walk_at "rd"
    intro p1 hp1
    have s1 := (Same.refl H).new (o := .lst [.bl (openD D), .bl (reasonD D).isSome, oV (reasonD D), .int (levelsD D : Int), .int (D.entered.length : Int)]) hp1
    have u1 := upd_same (H := H) (a := p1) (o := .lst [.bl (openD D), .bl (reasonD D).isSome, oV (reasonD D), .int (levelsD D : Int), .int (D.entered.length : Int)])
    generalize upd H p1 (.lst [.bl (openD D), .bl (reasonD D).isSome, oV (reasonD D), .int (levelsD D : Int), .int (D.entered.length : Int)]) = H1 at s1 u1 ⊢
    have hD1 := hD.keep fun b u _ e => s1 b u e
    have hx1 := hD1.db
    walk_at "rd"
    refine ⟨L, D, rfl, hD1, hm, fun H2 ts s2 ha => ?_⟩
    intro p2 g2
    have s3 := s2.new (o := .lst (ts.map V.ref)) g2
    have u2 := upd_same (H := H2) (a := p2) (o := .lst (ts.map V.ref))
    have ha2 : All2 (TupAt (upd H2 p2 (.lst (ts.map V.ref)))) ts D.rows := ha.imp fun x y _ z => upd_old z g2
    generalize upd H2 p2 (.lst (ts.map V.ref)) = H3 at s3 u2 ha2 ⊢
    refine ⟨p2, rfl, ⟨_, SqL.of u2⟩, ?_⟩
    intro S hS
    refine lc_list (xs := ts.map V.ref) (fun i H' => Same H3 H' ∧ ∃ us, All2 (TupAt H3) us (liveR (D.rows.take i)) ∧ H' S = some (.lst (us.map V.ref))) ?_ ?_ ?_ ?_
    · exact ⟨(Same.refl H3).new hS, [], .nil, upd_same⟩
    · rintro i H' _ ⟨s4, _⟩
      exact SqL.of (s4 _ _ u2)
    · rintro i v H' hv ⟨s4, us, hu, hS'⟩
      obtain ⟨t, ht, rfl⟩ := map_ref0 hv
      obtain ⟨r, hr, htr⟩ := ha2.get ht
      have ht3 : H' t = some (.tup [.str r.rcd, r.val, .str r.fate]) := s4 _ _ htr
      have i2 : atI [V.str r.rcd, r.val, V.str r.fate] 2 = some (V.str r.fate) := rfl
      rw [live_take hr]
      have hl : (us.map V.ref).length < sizeLine := by
        have h1 := hu.len
        have h2 : (liveR (D.rows.take i)).length ≤ (D.rows.take i).length := List.length_filter_le _ _
        have h3 : (D.rows.take i).length ≤ D.rows.length := by rw [List.length_take]; omega
        have h4 := hm.n
        rw [List.length_map, sizeLine_eq]; omega
      refine ⟨rfl, ?_⟩
      walk_at "rd"
      by_cases b : r.fate = "undone"
      · rw [if_pos b, List.append_nil, b]
        refine iteF ?_
        exact ⟨s4, us, hu, hS'⟩
      · rw [if_neg b, show (!decide (V.str r.fate = V.str "undone")) = true by rw [decide_eq_false (fun e => b (V.str.inj e))]; rfl]
        refine iteT ?_
        walk_at "rd"
        exact ⟨s4.frsh hS, us ++ [t], hu.app (.cons htr .nil), by rw [upd_same, List.map_append]; rfl⟩
    · rintro H4 ⟨s4, us, hu, hS4⟩
      rw [List.length_map, ha2.len, List.take_length] at hu
      have hD4 := hD1.keep fun b u _ e => s4 b u (s3 b u e)
      have hx4 := hD4.db
      have u1 := s4 _ _ (s3 _ _ u1)
      have s14 := s1.trans (s3.trans s4)
      walk_at "rd"
      refine ⟨L, D, rfl, hD4, hm, fun H5 q5 s5 u5 _ => ?_⟩
      have hD5 := hD4.keep fun b u _ e => s5 b u e
      have hx5 := hD5.db
      walk_at "rd"
      refine ⟨L, D, rfl, hD5, hm, fun H6 q6 s6 u6 _ => ?_⟩
      have hD6 := hD5.keep fun b u _ e => s6 b u e
      have hx6 := hD6.db
      walk_at "rd"
      refine ⟨L, D, rfl, hD6, hm, fun H7 q7 s7 u7 _ => ?_⟩
      walk_at "rd"
      intro q8 hq8
      have s47 := s5.trans (s6.trans s7)
      have v1 := upd_old (o := .lst [.ref p1, .ref q5, .ref q6, .ref q7, .ref S]) (s47 _ _ u1) hq8
      have v5 := upd_old (o := .lst [.ref p1, .ref q5, .ref q6, .ref q7, .ref S]) (s7 _ _ (s6 _ _ u5)) hq8
      have v6 := upd_old (o := .lst [.ref p1, .ref q5, .ref q6, .ref q7, .ref S]) (s7 _ _ u6) hq8
      have v7 := upd_old (o := .lst [.ref p1, .ref q5, .ref q6, .ref q7, .ref S]) u7 hq8
      have vS := upd_old (o := .lst [.ref p1, .ref q5, .ref q6, .ref q7, .ref S]) (s47 _ _ hS4) hq8
      have hu8 : All2 (TupAt (upd H7 q8 (.lst [.ref p1, .ref q5, .ref q6, .ref q7, .ref S]))) us (liveR D.rows) := hu.imp fun x y _ z => upd_old (s47 _ _ (s4 _ _ z)) hq8
      have hrl : ∀ r ∈ liveR D.rows, RdOk r := fun r hr => g.rd r ((List.mem_filter.mp hr).1)
      obtain ⟨k1, k2, k3⟩ := seen_ok g hm2 hrl (Nat.le_trans (List.length_filter_le _ _) g.r)
      refine ⟨_, seenD D (liveR D.rows), rfl, ?_, k1, k2, k3, k _ ((s14.trans s47).new hq8)⟩
      refine .lst (SqL.of upd_same) (.cons (.lst (SqL.of v1) (.cons (.bl _) (.cons (.bl _) (.cons (dq_o _) (.cons (.int _) (.cons (.int _) .nil)))))) (.cons (.lst (SqL.of v5) (dq_strs _)) (.cons (.lst (SqL.of v6) (dq_strs _)) (.cons (.dct v7 (dq_kv fun p hp => ?_)) (.cons (.lst (SqL.of vS) (dq_rows hu8 hrl)) .nil)))))
      obtain ⟨r, hr, e⟩ := keptD_mem hp
      obtain ⟨_, ⟨i, e2, _⟩, _⟩ := g.rd r hr
      exact ⟨i, by rw [e]; exact e2⟩
/-! ### k09, plain: the law's deeds -/
section
variable {D E : Db} {m z : Str} {i : Int} {k : Nat}
theorem try_leave : tryV D "leave" z i = leaveD D none true := if_pos rfl
theorem try_fail (h : IsWord z) : tryV D "fail" z i = leaveD D (some z) true := by
  unfold tryV
  rw [if_neg (by decide +kernel), if_pos rfl]
  exact leaveV_o (err := some z) fun _ e => Option.some.inj e ▸ h
theorem try_write (h : IsWord z) : tryV D "write" z i = writeD D z (.int i) := by
  unfold tryV
  rw [if_neg (by decide +kernel), if_neg (by decide +kernel), if_pos rfl, setV_word h]
theorem R9.tryV (h : R9 D E) (hz : IsWord z) : (tryV E m z i).2 = (tryV D m z i).2 ∧ R9 (tryV D m z i).1 (tryV E m z i).1 := by
  have lo : ∀ X : Db, leaveV X (.str z) true = leaveD X (some z) true := fun X => leaveV_o (err := some z) fun _ e => Option.some.inj e ▸ hz
  unfold Ic.tryV
  by_cases c1 : m = "leave"
  · rw [if_pos c1, if_pos c1]; exact h.leave none true
  rw [if_neg c1, if_neg c1]
  by_cases c2 : m = "fail"
  · rw [if_pos c2, if_pos c2, lo, lo]; exact h.leave _ true
  rw [if_neg c2, if_neg c2]
  by_cases c3 : m = "write"
  · rw [if_pos c3, if_pos c3, setV_word hz, setV_word hz]; exact h.write z _
  rw [if_neg c3, if_neg c3]
  by_cases c4 : m = "doom"
  · rw [if_pos c4, if_pos c4, doomV_word hz, doomV_word hz]; exact ⟨rfl, h.doom z⟩
  rw [if_neg c4, if_neg c4]
  exact h.enter _
theorem Gd.tryV (g : Gd D k) (hz : IsWord z) (hi : i.natAbs < 2 ^ 120) : Gd (tryV D m z i).1 (k + 1) := by
  unfold Ic.tryV
  by_cases c1 : m = "leave"
  · rw [if_pos c1]; exact (g.leave (err := none) fun _ e => nomatch e).up (Nat.le_succ _)
  rw [if_neg c1]
  by_cases c2 : m = "fail"
  · rw [if_pos c2, show leaveV D (.str z) true = leaveD D (some z) true from leaveV_o (err := some z) fun _ e => Option.some.inj e ▸ hz]
    exact (g.leave fun _ e => Option.some.inj e ▸ hz).up (Nat.le_succ _)
  rw [if_neg c2]
  by_cases c3 : m = "write"
  · rw [if_pos c3, setV_word hz]; exact g.write hz hi
  rw [if_neg c3]
  by_cases c4 : m = "doom"
  · rw [if_pos c4, doomV_word hz]; exact (g.doom hz).up (Nat.le_succ _)
  rw [if_neg c4]
  exact g.enter _
def deedsB : List Str := ["write", "write", "write", "join", "must", "either", "inner", "doom", "leave", "fail"]
variable {n : Int} {rs0 : List (Option Str)} {st0 : List (Option Tx)} {esN : List Str} {rsN : List (Option Str)} {U : List Row}
theorem B9.tryLeave {e : Str} {es : List Str} (h : B9 D n rs0 st0 E (e :: es) rsN U) (hf : D.floor = 0) (hz : IsWord z) (hm : m = "leave" ∨ m = "fail") : ∃ rsN' U', B9 D n rs0 st0 (tryV E m z i).1 es rsN' U' := by
  rcases hm with rfl | rfl
  · rw [try_leave]; exact h.leave hf
  · rw [try_fail hz]; exact h.leave hf
theorem B9.tryV (h : B9 D n rs0 st0 E esN rsN U) (hf : D.floor = 0) (hz : IsWord z) (hm : m ∈ deedsB) (hl : m = "leave" ∨ m = "fail" → esN ≠ []) : ∃ esN' rsN' U', B9 D n rs0 st0 (tryV E m z i).1 esN' rsN' U' := by
  have ent : m ∈ inM → Ic.tryV E m z i = enterD E m := fun hm => by
    unfold Ic.tryV
    rw [if_neg (fun e => by rw [e] at hm; revert hm; decide +kernel), if_neg (fun e => by rw [e] at hm; revert hm; decide +kernel), if_neg (fun e => by rw [e] at hm; revert hm; decide +kernel), if_neg (fun e => by rw [e] at hm; revert hm; decide +kernel)]
    refine enterV_mode ?_
    simp only [inM, List.mem_cons, List.not_mem_nil, or_false] at hm
    rcases hm with rfl | rfl | rfl | rfl <;> decide +kernel
  by_cases c : m ∈ inM
  · rw [ent c]
    obtain ⟨x, y, q⟩ := h.enter c
    exact ⟨x, y, U, q⟩
  have cs : m = "write" ∨ m = "doom" ∨ m = "leave" ∨ m = "fail" := by
    simp only [deedsB, inM, List.mem_cons, List.not_mem_nil, or_false] at hm c
    rcases hm with h | h | h | h | h | h | h | h | h | h
    · exact .inl h
    · exact .inl h
    · exact .inl h
    · exact absurd (.inl h) c
    · exact absurd (.inr (.inl h)) c
    · exact absurd (.inr (.inr (.inl h))) c
    · exact absurd (.inr (.inr (.inr h))) c
    · exact .inr (.inl h)
    · exact .inr (.inr (.inl h))
    · exact .inr (.inr (.inr h))
  rcases cs with rfl | rfl | cs
  · rw [try_write hz]
    obtain ⟨U', q⟩ := h.write z (.int i)
    exact ⟨_, _, _, q⟩
  · unfold Ic.tryV
    rw [if_neg (by decide +kernel), if_neg (by decide +kernel), if_neg (by decide +kernel), if_pos rfl, doomV_word hz]
    obtain ⟨x, q⟩ := h.doom z
    exact ⟨_, _, _, q⟩
  · cases esN with
    | nil => exact absurd rfl (hl cs)
    | cons e es =>
      obtain ⟨x, y, q⟩ := h.tryLeave (i := i) hf hz cs
      exact ⟨_, _, _, q⟩
theorem B9.len (h : B9 D n rs0 st0 E esN rsN U) : E.entered.length = esN.length + 1 + D.entered.length := by
  rw [h.e]
  show (esN ++ _ :: D.entered).length = _
  rw [List.length_append, List.length_cons]; omega
theorem B9.doomed (h : B9 D n rs0 st0 E [] rsN U) : ((reasonD E).isSome = true → ∃ z, rsN = [some z]) := fun q => by
  have lv := h.lv
  obtain ⟨y, rfl⟩ : ∃ y, rsN = [y] := by cases lv; exact ⟨_, rfl⟩
  unfold reasonD at q
  rw [h.e] at q
  have q : y.isSome = true := q
  obtain ⟨z, rfl⟩ := Option.isSome_iff_exists.mp q
  exact ⟨z, rfl⟩
theorem leave_len {err : Option Str} {c : Bool} (hf : D.floor = 0) (h : D.entered ≠ []) : (leaveD D err c).1.entered.length + 1 = D.entered.length ∧ (leaveD D err c).1.floor = 0 := by
  obtain ⟨rows, stack, entered, floor, opened⟩ := D
  dsimp only at hf h
  subst hf
  cases entered with
  | nil => exact absurd rfl h
  | cons e es =>
    unfold leaveD
    rw [if_neg (show ¬ ((e :: es).length : Int) ≤ 0 by rw [List.length_cons]; omega)]
    unfold leaveW
    dsimp only
    by_cases c1 : e = "outside"
    · rw [if_pos c1]; exact ⟨rfl, rfl⟩
    rw [if_neg c1]
    by_cases c2 : e = "joined"
    · rw [if_pos c2]
      cases err with
      | none => exact ⟨rfl, rfl⟩
      | some z => rcases stack with _ | ⟨_ | ⟨n, _ | ⟨_ | y, rs⟩⟩, st⟩ <;> exact ⟨rfl, rfl⟩
    rw [if_neg c2]
    by_cases c3 : e = "level"
    · rw [if_pos c3]
      rcases stack with _ | ⟨_ | ⟨n, _ | ⟨y, rs⟩⟩, st⟩ <;> exact ⟨rfl, rfl⟩
    rw [if_neg c3]
    by_cases c4 : e = "base"
    · rw [if_pos c4]
      rcases stack with _ | ⟨_ | ⟨n, _ | ⟨y, rs⟩⟩, st⟩ <;> exact ⟨rfl, rfl⟩
    rw [if_neg c4]; exact ⟨rfl, rfl⟩
theorem write_ent {v : V} : (writeD D z v).1.entered = D.entered ∧ (writeD D z v).1.floor = D.floor := by
  unfold writeD
  split
  · split <;> exact ⟨rfl, rfl⟩
  · split
    · exact ⟨rfl, rfl⟩
    · split <;> exact ⟨rfl, rfl⟩
  · exact ⟨rfl, rfl⟩
theorem kept_live : ∀ (rows : List Row) (l : List (Key × V)), (liveR rows).foldl keptS l = rows.foldl keptS l
  | [], _ => rfl
  | x :: r, l => by
    rw [List.foldl_cons, live_cons]
    by_cases e : x.fate = "undone"
    · rw [if_pos e, kept_live r]
      have : keptS l x = l := if_neg fun c => absurd (e.symm.trans c) (by decide +kernel)
      rw [this]
    · rw [if_neg e, List.foldl_cons, kept_live r]
theorem R9.seen (h : R9 D E) : seenD E (liveR E.rows) = seenD D (liveR D.rows) := by
  have e1 := congrArg Db.stack h.e
  have e2 := congrArg Db.entered h.e
  dsimp only at e1 e2
  have e3 : openD E = openD D := by unfold openD; rw [e1]
  have e4 : reasonD E = reasonD D := by unfold reasonD; rw [e1]
  have e5 : levelsD E = levelsD D := by unfold levelsD; rw [e1]
  have e6 : keptD E = keptD D := by
    unfold keptD keptK
    rw [← kept_live, ← kept_live D.rows, h.l]
  unfold seenD
  rw [e2, e3, e4, e5, e6, h.own, h.outer, h.l]
/-- ahead of the inner block -/
structure A9 (D : Db) : Prop where
  fl : D.floor = 0
  nn : ∀ x, some x ∈ D.stack → ∀ y ∈ x.rs, y = none
  lt : ∀ x st, D.stack = some x :: st → x.num < D.opened
  hl : ∀ r ∈ D.rows, r.fate = "open" → r.holder < D.opened ∧ ∀ x st, D.stack = some x :: st → x.num = r.holder → r.level < (x.rs.length : Int)
theorem a9_new : A9 ⟨[], [none], [], 0, 0⟩ := ⟨rfl, (fun x h => by simp at h), (fun x st h => by cases h), (fun r h => nomatch h)⟩
theorem A9.begin (g : A9 D) : A9 (beginD D) := by
  refine ⟨g.fl, fun x hx y hy => ?_, fun x st e => ?_, fun r hr h => ⟨?_, fun x st e q => ?_⟩⟩
  · rcases List.mem_cons.mp hx with e | e
    · cases e
      exact List.mem_singleton.mp hy
    · exact g.nn x e y hy
  · cases e
    show D.opened < D.opened + 1
    omega
  · have := (g.hl r hr h).1
    show r.holder < D.opened + 1
    omega
  · cases e
    have := (g.hl r hr h).1
    have q : D.opened = r.holder := q
    omega
theorem A9.plain (g : A9 D) (s : Str) : A9 (plainD D s) := ⟨g.fl, g.nn, g.lt, g.hl⟩
theorem A9.enter (g : A9 D) (gd : Gd D k) (v : V) : A9 (enterV D v).1 := by
  unfold enterV
  by_cases c : modeB v = true
  · rw [if_pos c]
    cases v with
    | str s =>
      dsimp only
      unfold enterD
      rcases gd.top with ⟨st, e⟩ | ⟨q, y, rs, st, e⟩
      · rw [e]
        dsimp only
        unfold aloneD
        by_cases c1 : decide (V.str s = V.str "must") = true
        · rw [if_pos c1]; exact g
        rw [if_neg c1]
        by_cases c2 : inV (.str s) [.str "either", .str "never", .str "outside"] = true
        · rw [if_pos c2]; exact g.plain _
        rw [if_neg c2]; exact g.begin
      · rw [e]
        dsimp only
        unfold lvlD
        by_cases c1 : inV (.str s) [.str "never", .str "alone"] = true
        · rw [if_pos c1]; exact g
        rw [if_neg c1]
        by_cases c2 : decide (V.str s = V.str "inner") = true
        · rw [if_pos c2]
          cases y with
          | some z => exact g
          | none =>
            have nn := g.nn
            rw [e] at nn
            refine ⟨g.fl, fun x hx z hz => ?_, fun x st' e' => ?_, fun r hr h => ⟨(g.hl r hr h).1, fun x st' e' w => ?_⟩⟩
            · rcases List.mem_cons.mp hx with w | w
              · cases w
                rcases List.mem_cons.mp hz with w | w
                · exact w
                · exact nn ⟨q, none :: rs⟩ List.mem_cons_self z w
              · exact nn x (List.mem_cons_of_mem _ w) z hz
            · cases e'
              exact g.lt ⟨q, none :: rs⟩ st e
            · cases e'
              have := (g.hl r hr h).2 ⟨q, none :: rs⟩ st e w
              show r.level < ((none :: none :: rs : List (Option Str)).length : Int)
              simp only [List.length_cons] at this ⊢
              omega
        rw [if_neg c2]
        by_cases c3 : decide (V.str s = V.str "apart") = true
        · rw [if_pos c3]; exact g.begin
        rw [if_neg c3]
        by_cases c4 : decide (V.str s = V.str "outside") = true
        · rw [if_pos c4]
          refine ⟨g.fl, fun x hx z hz => ?_, fun x st' e' => ?_, fun r hr h => ⟨(g.hl r hr h).1, fun x st' e' w => ?_⟩⟩
          · rcases List.mem_cons.mp hx with w | w
            · cases w
            · exact g.nn x w z hz
          · cases e'
          · cases e'
        rw [if_neg c4]; exact g.plain _
    | _ => exact g
  · rw [if_neg c]; exact g
theorem A9.write (g : A9 D) (gd : Gd D k) {v : V} : A9 (writeD D z v).1 := by
  unfold writeD
  rcases gd.top with ⟨st, e⟩ | ⟨q, y, rs, st, e⟩
  · rw [e]
    dsimp only
    split
    · exact g
    · refine ⟨g.fl, g.nn, g.lt, fun r hr h => ?_⟩
      rcases List.mem_append.mp hr with w | w
      · exact g.hl r w h
      · cases List.mem_singleton.mp w
        exact absurd (show ("kept" : Str) = "open" from h) (by decide +kernel)
  · rw [e]
    dsimp only
    cases y with
    | some y => exact g
    | none =>
      dsimp only
      split
      · exact g
      · refine ⟨g.fl, g.nn, g.lt, fun r hr h => ?_⟩
        rcases List.mem_append.mp hr with w | w
        · exact g.hl r w h
        · cases List.mem_singleton.mp w
          refine ⟨g.lt _ _ e, fun x st' e' w => ?_⟩
          have e' : D.stack = some x :: st' := e'
          rw [e] at e'
          cases e'
          show (rs.length : Int) < ((none :: rs : List (Option Str)).length : Int)
          rw [List.length_cons]; omega
theorem A9.tryV (g : A9 D) (gd : Gd D k) (hz : IsWord z) (hm : m ∈ modesS ∨ m = "write") : A9 (tryV D m z i).1 := by
  by_cases c : m = "write"
  · rw [c, try_write hz]; exact g.write gd
  have hm : m ∈ modesS := hm.resolve_right c
  unfold Ic.tryV
  rw [if_neg (fun e => by rw [e] at hm; revert hm; decide +kernel), if_neg (fun e => by rw [e] at hm; revert hm; decide +kernel), if_neg c, if_neg (fun e => by rw [e] at hm; revert hm; decide +kernel)]
  exact g.enter gd _
theorem A9.inner (g : A9 D) (gd : Gd D k) (ho : openD D = true) : ∃ n rs st, D.stack = some ⟨n, none :: rs⟩ :: st ∧ ∀ r ∈ D.rows, r.fate = "open" → r.holder = n → r.level < ((none :: rs : List (Option Str)).length : Int) := by
  rcases gd.top with ⟨st, e⟩ | ⟨q, y, rs, st, e⟩
  · unfold openD at ho
    rw [e] at ho; cases ho
  · have : y = none := g.nn ⟨q, y :: rs⟩ (by rw [e]; exact List.mem_cons_self) y List.mem_cons_self
    subst this
    exact ⟨q, rs, st, e, fun r hr h w => (g.hl r hr h).2 _ _ e w.symm⟩
end
theorem apart_open {D : Db} {k : Nat} (gd : Gd D k) (h : openD D = false) : tryV D "apart" "" 0 = enterV D (.str "apart") ∧ openD (enterV D (.str "apart")).1 = true := by
  refine ⟨?_, ?_⟩
  · unfold tryV
    rw [if_neg (by decide +kernel), if_neg (by decide +kernel), if_neg (by decide +kernel), if_neg (by decide +kernel)]
  · rw [enterV_mode (by decide +kernel)]
    rcases gd.top with ⟨st, e⟩ | ⟨q, y, rs, st, e⟩
    · unfold enterD
      rw [e]
      dsimp only
      unfold aloneD
      rw [if_neg (by decide +kernel), if_neg (by decide +kernel)]
      rfl
    · unfold openD at h
      rw [e] at h; cases h
def deedsA : List Str := ["join", "inner", "apart", "must", "either", "never", "outside", "alone", "write", "write", "write"]
theorem deedsA_mode {m : Str} (h : m ∈ deedsA) : m ∈ modesS ∨ m = "write" := by
  simp only [deedsA, List.mem_cons, List.not_mem_nil, or_false] at h
  rcases h with rfl | rfl | rfl | rfl | rfl | rfl | rfl | rfl | rfl | rfl | rfl
  all_goals first
    | exact .inr rfl
    | exact .inl (by decide +kernel)
theorem deedsA_thing {H : Hp} {m : Str} (h : m ∈ deedsA) : Thing H (.str m) := by
  simp only [deedsA, List.mem_cons, List.not_mem_nil, or_false] at h
  rcases h with rfl | rfl | rfl | rfl | rfl | rfl | rfl | rfl | rfl | rfl | rfl <;> exact .str _ (by decide +kernel) (by unfold asc; decide +kernel)
theorem tryS_eq {D E : Db} {m z : Str} {i : Int} (h : R9 D E) (hz : IsWord z) : tryS (tryV E m z i) = tryS (tryV D m z i) := by
  unfold tryS
  rw [(h.tryV hz).1]
theorem try_step {D : Db} {k : Nat} {m z : Str} {i : Int} (g : Gd D k) (fl : D.floor = 0) (ne : D.entered ≠ []) (hz : IsWord z) (hm : m = "leave" ∨ m = "fail") : (tryV D m z i).1.entered.length + 1 = D.entered.length ∧ (tryV D m z i).1.floor = 0 ∧ Gd (tryV D m z i).1 k := by
  rcases hm with rfl | rfl
  · rw [try_leave]
    obtain ⟨a, b⟩ := leave_len (err := none) (c := true) fl ne
    exact ⟨a, b, g.leave (err := none) (c := true) fun _ e => nomatch e⟩
  · rw [try_fail hz]
    obtain ⟨a, b⟩ := leave_len (err := some z) (c := true) fl ne
    exact ⟨a, b, g.leave fun _ e => Option.some.inj e ▸ hz⟩
theorem R9.ent {D E : Db} (h : R9 D E) : E.entered = D.entered ∧ E.floor = D.floor := by
  have e2 := congrArg Db.entered h.e
  have e3 := congrArg Db.floor h.e
  exact ⟨e2, e3⟩
theorem try_wr {D : Db} {k : Nat} {z : Str} {i : Int} (g : Gd D k) (hz : IsWord z) (hi : i.natAbs < 2 ^ 120) : (tryV D "write" z i).1.entered = D.entered ∧ (tryV D "write" z i).1.floor = D.floor ∧ Gd (tryV D "write" z i).1 (k + 1) := by
  rw [try_write hz]
  exact ⟨write_ent.1, write_ent.2, g.write hz hi⟩
def lfwS : List Str := ["leave", "leave", "fail", "write"]
/-! ### lists of databases and cells, one of them changed -/
theorem set_get {α : Type} {l : List α} {i : Nat} {x : α} (h : l[i]? = some x) : l.set i x = l := by
  obtain ⟨h1, h2⟩ := List.getElem?_eq_some_iff.mp h
  rw [← h2]
  exact List.set_getElem_self h1
theorem get_ne {α : Type} {l : List α} {i j : Nat} {x : α} (h : i ≠ j) : (l.set i x)[j]? = l[j]? := List.getElem?_set_ne h
theorem get_eq {α : Type} {l : List α} {i : Nat} {x y : α} (h : l[i]? = some y) : (l.set i x)[i]? = some x := by
  obtain ⟨h1, _⟩ := List.getElem?_eq_some_iff.mp h
  rw [List.getElem?_set_self h1]
theorem at_str {xs : List Str} {r : Int} (h0 : 0 ≤ r) (h1 : r < ((xs.map V.str).length : Int)) : ∃ z, atI (xs.map V.str) r = some (.str z) ∧ z ∈ xs := by
  obtain ⟨n, rfl⟩ : ∃ n : Nat, r = n := ⟨r.toNat, by omega⟩
  have hi : n < xs.length := by rw [List.length_map] at h1; omega
  exact ⟨xs[n], atI_nat (by rw [List.getElem?_map, List.getElem?_eq_getElem hi]; rfl), List.getElem_mem hi⟩
theorem Wd.draw {a : Ad} {H0 H H' : Hp} {ds : List (Lay × Db)} {cs : List (Addr × HO)} {ip : Nat} {pp : Addr} {o o' : HO} {x : Addr × HO} (h : Wd a H0 H ds (cs.set ip (pp, o))) (ep : cs[ip]? = some x) (k : Kp (fun b => b = pp) H H') (e' : H' pp = some o') (ni : ∀ C dx fs, o' ≠ .ins C dx fs) : Wd a H0 H' ds (cs.set ip (pp, o')) := by
  have q := h.putC (get_eq ep) k e' ni
  rw [List.set_set] at q
  exact q
theorem Wd.opD {a : Ad} {H0 H H' : Hp} {ds : List (Lay × Db)} {cs : List (Addr × HO)} {jd : Nat} {L L' : Lay} {D D' : Db} {x : Lay × Db} (h : Wd a H0 H (ds.set jd (L, D)) cs) (ed : ds[jd]? = some x) (hD : DB a H' L' D') (f : Fr H H' L L') : Wd a H0 H' (ds.set jd (L', D')) cs := by
  have q := h.putD (get_eq ed) hD f
  rw [List.set_set] at q
  exact q
/-! ### _law_inside -/
def spInside9 (a : Ad) : Sp := fun vs H Q _ => ∃ H0 ds cs ip jd pp o L D c E0 n rs0 st0 k0, vs = [.ref pp, .ref L.db] ∧ Wd a H0 H ds cs ∧ cs[ip]? = some (pp, o) ∧ ds[jd]? = some (L, D) ∧ PoolO o c ∧ c < 2 ^ 30 ∧ Gd D k0 ∧ k0 ≤ 1000 ∧ B9 E0 n rs0 st0 D [] [none] [] ∧ E0.floor = 0 ∧
  ∀ H' L' D' o' rsN U, Wd a H0 H' (ds.set jd (L', D')) (cs.set ip (pp, o')) → L'.db = L.db → PoolO o' (c + 20000) → Gd D' (k0 + 13) → B9 E0 n rs0 st0 D' [] rsN U → Q .non H'
theorem deedsB_thing {H : Hp} {m : Str} (h : m ∈ deedsB) : Thing H (.str m) := by
  simp only [deedsB, List.mem_cons, List.not_mem_nil, or_false] at h
  rcases h with rfl | rfl | rfl | rfl | rfl | rfl | rfl | rfl | rfl | rfl <;> exact .str _ (by decide +kernel) (by unfold asc; decide +kernel)
abbrev lfS : List Str := ["leave", "fail"]
theorem ok_law_inside (T : Txt K mg a d) : FnOk P w K mg base CX0 7 a.law_inside d.law_inside ["_law_pool_here", "_law_db"] (spInside9 a) := by
  have G_law_draw : FnOk P w K mg base CX0 1 a.law_draw d.law_draw ["_law_pool_here", "_law_many"] spDraw := ok_law_draw T
  have G_law_word : FnOk P w K mg base CX0 2 a.law_word d.law_word ["_law_pool_here"] spWord := ok_law_word T
  have G_Database_depth : FnOk P w K mg base CX0 1 a.Database_depth d.Database_depth ["self"] (spProp a fun D => .int (D.entered.length : Int)) := ok_Database_depth T
  have G_law_try : FnOk P w K mg base CX0 6 a.law_try d.law_try ["_law_db", "_law_deed", "_law_word_here", "_law_value"] (spTry a) := ok_law_try T
  refine T.law_inside.ok sc_law_inside (fun vs H Q E h => ?_) (fun cdv A outer s H vs Q E hr h => ?_)
  · obtain ⟨H0, ds, cs, ip, jd, pp, o, L, D, c, E0, n, rs0, st0, k0, rfl, _⟩ := h
    rfl
  · obtain ⟨H0, ds, cs, ip, jd, pp, o, L, D, c, E0, n, rs0, st0, k0, rfl, W, ep, ed, ho, hc, g, hk0, b9, hf, k⟩ := h
    refine ⟨_, (pss_cons (ps_set (i := 2) sc_law_inside.nd rfl (Or.inl rfl) (pe_prop (pv 1) T.k_Database T.m_Database_depth G_Database_depth (hr.mono (by decide)) T.b_Database_depth .nil pass0 rfl))
  (pss_cons (ps_for PassesOwn.never rfl (pi_range1 (by rfl) T.n_range (pa_cons (pe_call G_law_draw (hr.mono (by decide)) (by rfl) T.g_law_draw T.law_draw.kp T.b_law_draw .nil pass0 (pa_cons (pv 0) (pa_cons pe_int pa_nil))) pa_nil)) (pg_name (i := 3) sc_law_inside.nd rfl (Or.inl rfl))
  (pss_cons (ps_set (i := 4) sc_law_inside.nd rfl (Or.inl rfl) (pe_lst (pa_cons pe_str (pa_cons pe_str (pa_cons pe_str (pa_cons pe_str (pa_cons pe_str (pa_cons pe_str (pa_cons pe_str (pa_cons pe_str (pa_cons pe_str (pa_cons pe_str pa_nil))))))))))))
  (pss_cons (ps_par (i := 5) (j := 6) rfl sc_law_inside.nd rfl rfl (by decide) rfl rfl (pa_cons (pe_ix ix_list (pv 4) (pe_call G_law_draw (hr.mono (by decide)) (by rfl) T.g_law_draw T.law_draw.kp T.b_law_draw .nil pass0 (pa_cons (pv 0) (pa_cons pe_int pa_nil))) (fun _ _ => rfl)) (pa_cons (pe_call G_law_word (hr.mono (by decide)) (by rfl) T.g_law_word T.law_word.kp T.b_law_word .nil pass0 (pa_cons (pv 0) pa_nil)) pa_nil)) (by rfl))
  (pss_one (ps_if (PW.pt (pw_or (pt_cmpR op_notIn_seq (pv 5) (pe_lst (pa_cons pe_str (pa_cons pe_str pa_nil))) (by rfl)) (pw_or1 (pt_cmpR op_gt (pe_prop (pv 1) T.k_Database T.m_Database_depth G_Database_depth (hr.mono (by decide)) T.b_Database_depth .nil pass0 rfl) (pv 2) (nomark _))))) (pss_one (ps_expr (pe_call G_law_try (hr.mono (by decide)) (by rfl) T.g_law_try T.law_try.kp T.b_law_try .nil pass0 (pa_cons (pv 1) (pa_cons (pv 5) (pa_cons (pv 6) (pa_cons (pe_call G_law_draw (hr.mono (by decide)) (by rfl) T.g_law_draw T.law_draw.kp T.b_law_draw .nil pass0 (pa_cons (pv 0) (pa_cons pe_int pa_nil))) pa_nil))))))) pss_nil)))))
  (pss_one (ps_while PassesOwn.never (pt_cmpR op_gt (pe_prop (pv 1) T.k_Database T.m_Database_depth G_Database_depth (hr.mono (by decide)) T.b_Database_depth .nil pass0 rfl) (pv 2) (nomark _))
  (pss_one (ps_expr (pe_call G_law_try (hr.mono (by decide)) (by rfl) T.g_law_try T.law_try.kp T.b_law_try .nil pass0 (pa_cons (pv 1) (pa_cons (pe_ix ix_list (pe_lst (pa_cons pe_str (pa_cons pe_str pa_nil))) (pe_call G_law_draw (hr.mono (by decide)) (by rfl) T.g_law_draw T.law_draw.kp T.b_law_draw .nil pass0 (pa_cons (pv 0) (pa_cons pe_int pa_nil))) (fun _ _ => rfl)) (pa_cons (pe_call G_law_word (hr.mono (by decide)) (by rfl) T.g_law_word T.law_word.kp T.b_law_word .nil pass0 (pa_cons (pv 0) pa_nil)) (pa_cons pe_int pa_nil))))))))))), ?_⟩
    dsimp only [cxOf]
    rw [← set_get ep, ← set_get ed] at W
    have e1 : ∀ y, (cs.set ip (pp, y))[ip]? = some (pp, y) := fun y => get_eq ep
    have e2 : ∀ y, (ds.set jd y)[jd]? = some y := fun y => get_eq ed
    obtain ⟨x, ex⟩ : ∃ x, L.db = x := ⟨_, rfl⟩
    obtain ⟨d0, ed0⟩ : ∃ d0, D.entered.length = d0 := ⟨_, rfl⟩
    have hd0 : d0 = E0.entered.length + 1 := by
      have := b9.len
      simp only [List.length_nil] at this
      omega
    have hD := W.db _ _ (e2 _)
    have hx := hD.db
    walk_at "rd"
    refine ⟨L, D, rfl, hD, g.sm (by omega), ?_⟩
    dsimp only
    rw [ed0]
    have hp := W.cl _ _ (e1 o)
    dsimp only at hp
    walk_at "rd"
    intro r1 o1 r10 r11 h1
    have W1 := W.draw ep (o' := o1) Kp.refl.set1 upd_same h1.ni
    generalize upd H pp o1 = H1 at W1 ⊢
    clear W hp hx hD
    rw [ex] at k ⊢
    walk_at "rd"
    refine for_range (fun t σ H' => t ≤ 13 ∧ ∃ L D o esN rsN U v3 v4 v5 v6, Wd a H0 H' (ds.set jd (L, D)) (cs.set ip (pp, o)) ∧ L.db = x ∧ PoolO o (c + 1 + 30 * t) ∧ Gd D (k0 + t) ∧ B9 E0 n rs0 st0 D esN rsN U ∧ σ = [some (.ref pp), some (.ref x), some (.int (d0 : Int)), v3, v4, v5, v6]) ?_ ?_ ?_
    · exact ⟨by omega, L, D, o1, [], [none], [], _, _, _, _, W1, ex, h1, g, b9, rfl⟩
    · rintro t σ H2 ht ⟨_, L, D, o2, esN, rsN, U, v3, v4, v5, v6, W2, el, h2, g2, b2, rfl⟩
      have ht13 : t < 13 := by omega
      walk_at "rd"
      intro q3 hq3
      have W3 := W2.keep ((Same.refl _).new (o := .lst (deedsB.map V.str)) hq3)
      have u3 := upd_same (H := H2) (a := q3) (o := .lst (deedsB.map V.str))
      have np3 : q3 ≠ pp := Ne.symm (ne_of_none (W2.cl _ _ (e1 _)) hq3)
      generalize hH3 : upd H2 q3 _ = H3
      rw [show upd H2 q3 (.lst (deedsB.map V.str)) = H3 from hH3] at W3 u3
      clear hH3
      have hp3 := W3.cl _ _ (e1 _)
      dsimp only at hp3
      walk_at "rd"
      intro r4 o4 r40 r41 h4
      have W4 := W3.draw ep (o' := o4) Kp.refl.set1 upd_same h4.ni
      have u4 := upd_oth (o := o4) np3 u3
      have hp4 := upd_same (H := H3) (a := pp) (o := o4)
      generalize upd H3 pp o4 = H4 at W4 u4 hp4 ⊢
      obtain ⟨m5, a5, hm5⟩ := at_str (xs := deedsB) r40 (by rw [List.length_map]; exact r41)
      walk_at "rd"
      intro w6 o6 H6 hw6 h6 hp6 kp6
      have W6 := W4.draw ep kp6 hp6 h6.ni
      walk_at "rd"
      intro q7 hq7
      have W7 := W6.keep ((Same.refl _).new (o := .lst [.str "leave", .str "fail"]) hq7)
      have u7 := upd_same (H := H6) (a := q7) (o := .lst [.str "leave", .str "fail"])
      generalize upd H6 q7 (.lst [.str "leave", .str "fail"]) = H7 at W7 u7 ⊢
      have hp7 := W7.cl _ _ (e1 _)
      dsimp only at hp7
      have hD7 := W7.db _ _ (e2 _)
      have hx7 := hD7.db
      dsimp only at hx7
      rw [el] at hx7
      have fin : ∀ {H8 : Hp} {L8 : Lay} {D8 : Db} {esN8 : List Str} {rsN8 : List (Option Str)} {U8 : List Row} {o8 : HO}, Wd a H0 H8 (ds.set jd (L8, D8)) (cs.set ip (pp, o8)) → L8.db = x → PoolO o8 (c + 1 + 30 * t + 20) → Gd D8 (k0 + (t + 1)) → B9 E0 n rs0 st0 D8 esN8 rsN8 U8 →
          t + 1 ≤ 13 ∧ ∃ L D o esN rsN U v3 v4 v5 v6, Wd a H0 H8 (ds.set jd (L, D)) (cs.set ip (pp, o)) ∧ L.db = x ∧ PoolO o (c + 1 + 30 * (t + 1)) ∧ Gd D (k0 + (t + 1)) ∧ B9 E0 n rs0 st0 D esN rsN U ∧ [some (V.ref pp), some (.ref x), some (.int (d0 : Int)), some (.int (0 + (t : Int))), some (.ref q3), some (.str m5), some (.str w6)] = [some (.ref pp), some (.ref x), some (.int (d0 : Int)), v3, v4, v5, v6] :=
        fun a1 a2 a3 a4 a5 => ⟨by omega, _, _, _, _, _, _, _, _, _, _, a1, a2, a3.mono (by omega), a4, a5, rfl⟩
      have go : ∀ {r8 : Int} {o8 : HO}, 0 ≤ r8 → r8 < 1000 → PoolO o8 (c + 1 + 30 * t + 11 + 1) → (m5 = "leave" ∨ m5 = "fail" → esN ≠ []) → ∀ (QQ : VK), (∀ v H', (t + 1 ≤ 13 ∧ ∃ L D o esN rsN U v3 v4 v5 v6, Wd a H0 H' (ds.set jd (L, D)) (cs.set ip (pp, o)) ∧ L.db = x ∧ PoolO o (c + 1 + 30 * (t + 1)) ∧ Gd D (k0 + (t + 1)) ∧ B9 E0 n rs0 st0 D esN rsN U ∧ [some (V.ref pp), some (.ref x), some (.int (d0 : Int)), some (.int (0 + (t : Int))), some (.ref q3), some (.str m5), some (.str w6)] = [some (.ref pp), some (.ref x), some (.int (d0 : Int)), v3, v4, v5, v6]) → QQ v H') →
          spTry a ([.ref x, .str m5, .str w6, .int r8] ++ []) (upd H7 pp o8) QQ (fun _ _ _ => False) := fun {r8 o8} r80 r81 h8 hl QQ kk => by
        have W8 := W7.draw ep (o' := o8) Kp.refl.set1 upd_same h8.ni
        obtain ⟨e', r', U', b'⟩ := b2.tryV (i := r8) hf hw6 hm5 hl
        refine ⟨L, D, m5, w6, r8, by rw [el]; rfl, deedsB_thing hm5, word_thing hw6, W8.db _ _ (e2 _), g2.sm (by omega), g2.fl, g2.wf, fun H9 L9 hD9 f9 => kk _ _ (fin (W8.opD ed hD9 f9) (f9.db.trans el) (h8.mono (by omega)) (g2.tryV hw6 (by have : r8.natAbs < 1000 := (by omega); exact Nat.lt_of_lt_of_le this (Nat.le_trans (by decide : 1000 ≤ 2 ^ 20) (Nat.pow_le_pow_right (by decide) (by decide))))) b')⟩
      have dep : D.entered.length = esN.length + d0 := by
        have := b2.len
        omega
      walk_at "rd"
      rw [show (if true = true then !inV (V.str m5) [V.str "leave", V.str "fail"] else inV (V.str m5) [V.str "leave", V.str "fail"]) = !decide (m5 ∈ (["leave", "fail"] : List Str)) from congrArg not (inV_strs (l := ["leave", "fail"]))]
      by_cases cm : m5 ∈ (["leave", "fail"] : List Str)
      · rw [decide_eq_true cm]
        walk_at "rd"
        refine ⟨L, D, by rw [el], hD7, g2.sm (by omega), ?_⟩
        walk_at "rd"
        refine ite2 (fun b1 => ?_) (fun b1 => ?_)
        · walk_at "rd"
          intro r8 o8 r80 r81 h8
          refine go r80 r81 (h8.mono (by omega)) (fun _ z => ?_) _ (fun v H' q => q)
          have b1 := of_decide_eq_true b1
          rw [z, List.length_nil] at dep
          omega
        · walk_at "rd"
          exact (fin W7 el (h6.mono (by omega)) (g2.up (by omega)) b2).2
      · rw [decide_eq_false cm]
        walk_at "rd"
        intro r8 o8 r80 r81 h8
        refine go r80 r81 (h8.mono (by omega)) (fun q => absurd ?_ cm) _ (fun v H' q => q)
        rcases q with q | q <;> rw [q] <;> simp
    · rintro σ H2 ⟨_, L, D, o2, esN, rsN, U, v3, v4, v5, v6, W2, el, h2, g2, b2, rfl⟩
      have l13 : r1.toNat ≤ 13 := by omega
      have dep : ∀ {D : Db} {esN : List Str} {rsN : List (Option Str)} {U : List Row}, B9 E0 n rs0 st0 D esN rsN U → D.entered.length = esN.length + d0 := fun b => by
        have := b.len
        omega
      have le0 : esN.length ≤ 1013 := by
        have := g2.e
        have := dep b2
        omega
      refine ⟨fun mm σ H' => ∃ L D o esN rsN U, esN.length = mm ∧ esN.length ≤ 1013 ∧ Wd a H0 H' (ds.set jd (L, D)) (cs.set ip (pp, o)) ∧ L.db = x ∧ PoolO o (c + 400 + 11 * (1013 - esN.length)) ∧ Gd D (k0 + 13) ∧ B9 E0 n rs0 st0 D esN rsN U ∧ σ = [some (.ref pp), some (.ref x), some (.int (d0 : Int)), v3, v4, v5, v6], ⟨_, L, D, o2, esN, rsN, U, rfl, le0, W2, el, h2.mono (by omega), g2.up (by omega), b2, rfl⟩, ?_⟩
      rintro mm σ H3 ⟨L, D, o3, esN, rsN, U, em, le3, W3, el, h3, g3, b3, rfl⟩
      have hD3 := W3.db _ _ (e2 _)
      have hx3 := hD3.db
      dsimp only at hx3
      rw [el] at hx3
      have hp3 := W3.cl _ _ (e1 _)
      dsimp only at hp3
      have d3 := dep b3
      walk_at "rd"
      refine ⟨L, D, by rw [el], hD3, g3.sm (by omega), ?_⟩
      walk_at "rd"
      cases esN with
      | nil =>
        rw [decide_eq_false (by rw [d3]; simp)]
        walk_at "rd"
        exact k _ _ _ _ _ _ W3 el (h3.mono (by omega)) g3 b3
      | cons e es =>
        rw [decide_eq_true (by rw [d3, List.length_cons]; omega)]
        refine ⟨_, fun σ' H' q => q, ?_⟩
        walk_at "rd"
        intro q4 hq4
        have W4 := W3.keep ((Same.refl _).new (o := .lst (lfS.map V.str)) hq4)
        have u4 := upd_same (H := H3) (a := q4) (o := .lst (lfS.map V.str))
        have np4 : q4 ≠ pp := Ne.symm (ne_of_none hp3 hq4)
        rw [show ([V.str "leave", V.str "fail"] : List V) = lfS.map V.str from rfl]
        generalize upd H3 q4 (.lst (lfS.map V.str)) = H4 at W4 u4 ⊢
        have hp4 := W4.cl _ _ (e1 _)
        dsimp only at hp4
        have hce : c + 400 + 11 * (1013 - (es.length + 1)) < 2 ^ 31 := by omega
        simp only [List.length_cons] at h3 le3 em
        walk_at "rd"
        intro r5 o5 r50 r51 h5
        have W5 := W4.draw ep (o' := o5) Kp.refl.set1 upd_same h5.ni
        have u5 := upd_oth (o := o5) np4 u4
        have hp5 := upd_same (H := H4) (a := pp) (o := o5)
        generalize upd H4 pp o5 = H5 at W5 u5 hp5 ⊢
        obtain ⟨m5, a5, hm5⟩ := at_str (xs := lfS) r50 (by rw [List.length_map]; exact r51)
        walk_at "rd"
        intro w6 o6 H6 hw6 h6 hp6 kp6
        have W6 := W5.draw ep kp6 hp6 h6.ni
        have hm6 : m5 = "leave" ∨ m5 = "fail" := by simpa using hm5
        obtain ⟨r', U', b'⟩ := b3.tryLeave (i := 0) hf hw6 hm6
        have g6 : Gd (tryV D m5 w6 0).1 (k0 + 13) := by
          rcases hm6 with rfl | rfl
          · rw [try_leave]; exact g3.leave fun _ e => nomatch e
          · rw [try_fail hw6]; exact g3.leave fun _ e => Option.some.inj e ▸ hw6
        walk_at "rd"
        refine ⟨L, D, m5, w6, 0, by rw [el]; rfl, deedsB_thing (by rcases hm6 with rfl | rfl <;> decide +kernel), word_thing hw6, W6.db _ _ (e2 _), g3.sm (by omega), g3.fl, g3.wf, fun H7 L7 hD7 f7 => ?_⟩
        exact ⟨es.length, by omega, L7, _, o6, es, _, _, rfl, by omega, W6.opD ed hD7 f7, f7.db.trans el, h6.mono (by omega), g6, b', rfl⟩
/-! ### k09: the law -/
def spLaw (K : PySem.W.Frag) : Sp := fun vs H Q _ => ∃ (p : Addr) (ns : List Int), vs = [.ref p] ∧ SqL K H p (ns.map V.int) ∧ ns.length ≤ 63 ∧ ∀ H', Q (.bl true) H'
def mdA : List Str := ["join", "inner", "apart", "must", "either", "never", "outside", "alone"]
def wrA : List Str := ["write", "write", "write"]
theorem small9 {r : Int} (h0 : 0 ≤ r) (h : r < 1000000000) : r.natAbs < 2 ^ 120 := by
  have : r.natAbs < 1000000000 := by omega
  exact Nat.lt_of_lt_of_le this (Nat.le_trans (by decide : 1000000000 ≤ 2 ^ 30) (Nat.pow_le_pow_right (by decide) (by decide)))
theorem ok_law (T : Txt K mg a d) : FnG P w K mg base CX0 9 a.law d.law ["_law_script"] (spLaw K) := by
  have G_law_pool : FnOk P w K mg base CX0 1 a.law_pool d.law_pool ["_law_script", "_law_at"] (spPool K) := ok_law_pool T
  have G_law_draw : FnOk P w K mg base CX0 1 a.law_draw d.law_draw ["_law_pool_here", "_law_many"] spDraw := ok_law_draw T
  have G_law_word : FnOk P w K mg base CX0 2 a.law_word d.law_word ["_law_pool_here"] spWord := ok_law_word T
  have G_DatabaseU_initU : FnOk P w K mg base CX0 1 a.DatabaseU_initU d.DatabaseU_initU ["self"] (spDbI a) := ok_DatabaseU_initU T
  have G_Database_is_open : FnOk P w K mg base CX0 1 a.Database_is_open d.Database_is_open ["self"] (spProp a fun D => .bl (openD D)) := ok_Database_is_open T
  have G_Database_is_doomed : FnOk P w K mg base CX0 1 a.Database_is_doomed d.Database_is_doomed ["self"] (spProp a fun D => .bl (reasonD D).isSome) := ok_Database_is_doomed T
  have G_Database_depth : FnOk P w K mg base CX0 1 a.Database_depth d.Database_depth ["self"] (spProp a fun D => .int (D.entered.length : Int)) := ok_Database_depth T
  have G_Database_enter : FnOk P w K mg base (L2.CX P w) 5 a.Database_enter d.Database_enter ["self", "mode"] (spEnter a) := ok_Database_enter T
  have G_law_try : FnOk P w K mg base CX0 6 a.law_try d.law_try ["_law_db", "_law_deed", "_law_word_here", "_law_value"] (spTry a) := ok_law_try T
  have G_law_inside : FnOk P w K mg base CX0 7 a.law_inside d.law_inside ["_law_pool_here", "_law_db"] (spInside9 a) := ok_law_inside T
  have G_law_seen : FnG P w K mg base CX0 5 a.law_seen d.law_seen ["_law_db"] (spSeen9 a) := ok_law_seen T
  refine okG T.law sc_law (fun vs H Q E h => ?_) (fun cdv A outer s H vs Q E hr hgd h => ?_)
  · obtain ⟨p, ns, rfl, _⟩ := h
    rfl
  · obtain ⟨sa, ns, rfl, hS0, hl, k⟩ := h
    refine ⟨_, (pss_cons (ps_set (i := 1) sc_law.nd rfl (Or.inl rfl) (pe_lst (pa_cons pe_str (pa_cons pe_str (pa_cons pe_str (pa_cons pe_str (pa_cons pe_str (pa_cons pe_str (pa_cons pe_str (pa_cons pe_str pa_nil))))))))))
  (pss_cons (ps_for PassesOwn.never rfl (pi_range1 (by rfl) T.n_range (pa_cons (pe_callB (call_max2 rfl) (by rfl) T.n_max (by decide +kernel) (pa_cons pe_int (pa_cons (pe_callB (call_min2 rfl) (by rfl) T.n_min (by decide +kernel) (pa_cons pe_int (pa_cons (pe_callB call_len_seq (by rfl) T.n_len PySem.boot_len (pa_cons (pv 0) pa_nil)) pa_nil))) pa_nil))) pa_nil)) (pg_name (i := 2) sc_law.nd rfl (Or.inl rfl))
  (pss_cons (ps_set (i := 3) sc_law.nd rfl (Or.inl rfl) (pe_call G_law_pool (hr.mono (by decide)) (by rfl) T.g_law_pool T.law_pool.kp T.b_law_pool .nil pass0 (pa_cons (pv 0) (pa_cons (pv 2) pa_nil))))
  (pss_cons (ps_par (i := 4) (j := 5) rfl sc_law.nd rfl rfl (by decide) rfl rfl (pa_cons (pe_make0 T.mk_Database G_DatabaseU_initU (hr.mono (by decide)) (by rfl) T.g_Database T.b_DatabaseU_initU .nil pass0) (pa_cons (pe_make0 T.mk_Database G_DatabaseU_initU (hr.mono (by decide)) (by rfl) T.g_Database T.b_DatabaseU_initU .nil pass0) pa_nil)) (by rfl))
  (pss_cons (ps_for PassesOwn.never rfl (pi_range1 (by rfl) T.n_range (pa_cons (pe_op op_add pe_int (pe_call G_law_draw (hr.mono (by decide)) (by rfl) T.g_law_draw T.law_draw.kp T.b_law_draw .nil pass0 (pa_cons (pv 3) (pa_cons pe_int pa_nil)))) pa_nil)) (pg_name (i := 6) sc_law.nd rfl (Or.inl rfl))
  (pss_cons (ps_set (i := 7) sc_law.nd rfl (Or.inl rfl) (pe_ix ix_list (pe_op op_cat (pv 1) (pe_lst (pa_cons pe_str (pa_cons pe_str (pa_cons pe_str pa_nil))))) (pe_call G_law_draw (hr.mono (by decide)) (by rfl) T.g_law_draw T.law_draw.kp T.b_law_draw .nil pass0 (pa_cons (pv 3) (pa_cons pe_int pa_nil))) (fun _ _ => rfl)))
  (pss_cons (ps_par (i := 8) (j := 9) rfl sc_law.nd rfl rfl (by decide) rfl rfl (pa_cons (pe_call G_law_word (hr.mono (by decide)) (by rfl) T.g_law_word T.law_word.kp T.b_law_word .nil pass0 (pa_cons (pv 3) pa_nil)) (pa_cons (pe_call G_law_draw (hr.mono (by decide)) (by rfl) T.g_law_draw T.law_draw.kp T.b_law_draw .nil pass0 (pa_cons (pv 3) (pa_cons (pe_op op_pow pe_int pe_int) pa_nil))) pa_nil)) (by rfl))
  (pss_one (ps_if (pt_cmpR op_ne (pe_call G_law_try (hr.mono (by decide)) (by rfl) T.g_law_try T.law_try.kp T.b_law_try .nil pass0 (pa_cons (pv 4) (pa_cons (pv 7) (pa_cons (pv 8) (pa_cons (pv 9) pa_nil))))) (pe_call G_law_try (hr.mono (by decide)) (by rfl) T.g_law_try T.law_try.kp T.b_law_try .nil pass0 (pa_cons (pv 5) (pa_cons (pv 7) (pa_cons (pv 8) (pa_cons (pv 9) pa_nil))))) (nomark _)) (pss_one (ps_ret pe_bl)) pss_nil)))))
  (C8.pss_cut (ps_if (pt_not (pt_val (pe_prop (pv 4) T.k_Database T.m_Database_is_open G_Database_is_open (hr.mono (by decide)) T.b_Database_is_open .nil pass0 rfl))) (pss_cons (ps_expr (pe_call G_law_try (hr.mono (by decide)) (by rfl) T.g_law_try T.law_try.kp T.b_law_try .nil pass0 (pa_cons (pv 4) (pa_cons pe_str (pa_cons pe_str (pa_cons pe_int pa_nil))))))
  (pss_one (ps_expr (pe_call G_law_try (hr.mono (by decide)) (by rfl) T.g_law_try T.law_try.kp T.b_law_try .nil pass0 (pa_cons (pv 5) (pa_cons pe_str (pa_cons pe_str (pa_cons pe_int pa_nil)))))))) pss_nil)
  (pss_cons (ps_expr (pe_meth (pv 5) T.k_Database T.m_Database_enter G_Database_enter (hr.mono (by decide)) T.b_Database_enter .nil passL (pa_cons pe_str pa_nil)))
  (pss_cons (ps_expr (pe_call G_law_inside (hr.mono (by decide)) (by rfl) T.g_law_inside T.law_inside.kp T.b_law_inside .nil pass0 (pa_cons (pv 3) (pa_cons (pv 5) pa_nil))))
  (C8.pss_cut (ps_set (i := 10) sc_law.nd rfl (Or.inl rfl) (pe_and (pe_prop (pv 5) T.k_Database T.m_Database_is_doomed G_Database_is_doomed (hr.mono (by decide)) T.b_Database_is_doomed .nil pass0 rfl) (pe_one (pe_cmpR op_eq (pe_call G_law_draw (hr.mono (by decide)) (by rfl) T.g_law_draw T.law_draw.kp T.b_law_draw .nil pass0 (pa_cons (pv 3) (pa_cons pe_int pa_nil))) pe_int (nomark _)))))
  (C8.pss_cut (ps_if (pt_cmpR op_ne (pe_call G_law_try (hr.mono (by decide)) (by rfl) T.g_law_try T.law_try.kp T.b_law_try .nil pass0 (pa_cons (pv 5) (pa_cons (pe_ifExp (pt_val (pv 10)) pe_str pe_str) (pa_cons (pe_call G_law_word (hr.mono (by decide)) (by rfl) T.g_law_word T.law_word.kp T.b_law_word .nil pass0 (pa_cons (pv 3) pa_nil)) (pa_cons pe_int pa_nil))))) (pe_ifExp (pt_val (pv 10)) pe_str pe_str) (nomark _)) (pss_one (ps_ret pe_bl)) pss_nil)
  (pss_cons (ps_if (pt_cmpR op_ne (pe_callG G_law_seen (hr.mono (by decide)) hgd (by rfl) T.g_law_seen T.law_seen.kp T.b_law_seen .nil pass0 (pa_cons (pv 4) pa_nil)) (pe_callG G_law_seen (hr.mono (by decide)) hgd (by rfl) T.g_law_seen T.law_seen.kp T.b_law_seen .nil pass0 (pa_cons (pv 5) pa_nil)) (nomark _)) (pss_one (ps_ret pe_bl)) pss_nil)
  (pss_cons (ps_set (i := 8) sc_law.nd rfl (Or.inl rfl) (pe_call G_law_word (hr.mono (by decide)) (by rfl) T.g_law_word T.law_word.kp T.b_law_word .nil pass0 (pa_cons (pv 3) pa_nil)))
  (pss_one (ps_while PassesOwn.never (pt_cmpR op_gt (pe_prop (pv 4) T.k_Database T.m_Database_depth G_Database_depth (hr.mono (by decide)) T.b_Database_depth .nil pass0 rfl) pe_int (nomark _))
  (pss_cons (ps_set (i := 7) sc_law.nd rfl (Or.inl rfl) (pe_ix ix_list (pe_lst (pa_cons pe_str (pa_cons pe_str (pa_cons pe_str (pa_cons pe_str pa_nil))))) (pe_call G_law_draw (hr.mono (by decide)) (by rfl) T.g_law_draw T.law_draw.kp T.b_law_draw .nil pass0 (pa_cons (pv 3) (pa_cons pe_int pa_nil))) (fun _ _ => rfl)))
  (C8.pss_cut (ps_if (PW.pt (pw_and (pt_cmpR op_gt (pe_prop (pv 4) T.k_Database T.m_Database_depth G_Database_depth (hr.mono (by decide)) T.b_Database_depth .nil pass0 rfl) pe_int (nomark _)) (pw_and1 (pt_cmpR op_eq (pv 7) pe_str (nomark _))))) (pss_one (ps_set (i := 7) sc_law.nd rfl (Or.inl rfl) pe_str)) pss_nil)
  (C8.pss_cut (ps_if (PW.pt (pw_and (pt_cmpR op_eq (pv 7) pe_str (nomark _)) (pw_and1 (pt_cmpR op_eq (pe_call G_law_draw (hr.mono (by decide)) (by rfl) T.g_law_draw T.law_draw.kp T.b_law_draw .nil pass0 (pa_cons (pv 3) (pa_cons pe_int pa_nil))) pe_int (nomark _))))) (pss_one (ps_set (i := 7) sc_law.nd rfl (Or.inl rfl) pe_str)) pss_nil)
  (pss_cons (ps_if (pt_cmpR op_ne (pe_call G_law_try (hr.mono (by decide)) (by rfl) T.g_law_try T.law_try.kp T.b_law_try .nil pass0 (pa_cons (pv 4) (pa_cons (pv 7) (pa_cons (pv 8) (pa_cons pe_int pa_nil))))) (pe_call G_law_try (hr.mono (by decide)) (by rfl) T.g_law_try T.law_try.kp T.b_law_try .nil pass0 (pa_cons (pv 5) (pa_cons (pv 7) (pa_cons (pv 8) (pa_cons pe_int pa_nil))))) (nomark _)) (pss_one (ps_ret pe_bl)) pss_nil)
  (C8.pss_cut (ps_if (pt_cmpR op_eq (pv 7) pe_str (nomark _)) (pss_cons (ps_set (i := 7) sc_law.nd rfl (Or.inl rfl) pe_str)
  (pss_one (ps_if (pt_cmpR op_ne (pe_call G_law_try (hr.mono (by decide)) (by rfl) T.g_law_try T.law_try.kp T.b_law_try .nil pass0 (pa_cons (pv 4) (pa_cons (pv 7) (pa_cons (pv 8) (pa_cons pe_int pa_nil))))) (pe_call G_law_try (hr.mono (by decide)) (by rfl) T.g_law_try T.law_try.kp T.b_law_try .nil pass0 (pa_cons (pv 5) (pa_cons (pv 7) (pa_cons (pv 8) (pa_cons pe_int pa_nil))))) (nomark _)) (pss_one (ps_ret pe_bl)) pss_nil))) pss_nil)
  (pss_one (ps_if (pt_cmpR op_ne (pe_callG G_law_seen (hr.mono (by decide)) hgd (by rfl) T.g_law_seen T.law_seen.kp T.b_law_seen .nil pass0 (pa_cons (pv 4) pa_nil)) (pe_callG G_law_seen (hr.mono (by decide)) hgd (by rfl) T.g_law_seen T.law_seen.kp T.b_law_seen .nil pass0 (pa_cons (pv 5) pa_nil)) (nomark _)) (pss_one (ps_ret pe_bl)) pss_nil))))))))))))))))))))
  (pss_one (ps_ret pe_bl)))), ?_⟩
    dsimp only [cxOf]
    walk_at "rd"
    intro qm hqm
    have hmB := upd_same (H := H) (a := qm) (o := .lst (mdA.map V.str))
    have sB := (Same.refl H).new (o := .lst (mdA.map V.str)) hqm
    have hS := sB.seq hS0
    generalize hB : upd H qm _ = B
    rw [show upd H qm (.lst (mdA.map V.str)) = B from hB] at hmB sB hS
    clear hB sB
    walk_at "rd"
    refine for_range (fun i σ H1 => i ≤ 8 ∧ Same B H1 ∧ ∃ v2 v3 v4 v5 v6 v7 v8 v9 v10, σ = [some (.ref sa), some (.ref qm), v2, v3, v4, v5, v6, v7, v8, v9, v10]) ?_ ?_ ?_
    · exact ⟨by omega, Same.refl B, _, _, _, _, _, _, _, _, _, rfl⟩
    · rintro i σ H1 hi ⟨_, s1, v2, v3, v4, v5, v6, v7, v8, v9, v10, rfl⟩
      have hi8 : i < 8 := by revert hi; split <;> split <;> omega
      refine ⟨_, rfl, _, rfl, sa, ns, i, ?_, s1.seq hS, by omega, fun p o hp ho => ?_⟩
      · rw [Int.zero_add]; rfl
      have hmB1 := s1 _ _ hmB
      have W2 : Wd a H1 (upd H1 p o) [] [(p, o)] := wd_new.addC hp ho.ni
      generalize upd H1 p o = H2 at W2 ⊢
      clear hp
      walk_at "rd"
      intro x1 dx1 hx1 hdx1 nxd1
      refine ⟨x1, dx1, rfl, upd_same, fun H3 L1 hD1 el1 kp1 mt1 => ⟨rfl, ?_⟩⟩
      have W3 := W2.made hx1 hdx1 hD1 kp1 mt1
      clear kp1 mt1 hx1 hdx1 nxd1 W2 hD1
      walk_at "rd"
      intro x2 dx2 hx2 hdx2 nxd2
      refine ⟨x2, dx2, rfl, upd_same, fun H4 L2 hD2 el2 kp2 mt2 => ⟨rfl, ?_⟩⟩
      have W4 : Wd a H1 H4 [(L1, _), (L2, _)] [(p, o)] := W3.made hx2 hdx2 hD2 kp2 mt2
      clear kp2 mt2 hx2 hdx2 nxd2 W3 hD2
      have hp4 : H4 p = some o := W4.cl 0 _ rfl
      walk_at "rd"
      intro r5 o5 r50 r51 h5
      have W5 : Wd a H1 (upd H4 p o5) [(L1, _), (L2, _)] [(p, o5)] := W4.setC (i := 0) o5 rfl h5.ni
      generalize upd H4 p o5 = H5 at W5 ⊢
      clear W4 hp4 ho
      walk_at "rd"
      refine for_range (fun t σ H' => t ≤ 8 ∧ ∃ L1 L2 D o v6 v7 v8 v9, Wd a H1 H' [(L1, D), (L2, D)] [(p, o)] ∧ L1.db = x1 ∧ L2.db = x2 ∧ PoolO o (1 + 40 * t) ∧ Gd D t ∧ A9 D ∧ σ = [some (.ref sa), some (.ref qm), some (.int (0 + (i : Int))), some (.ref p), some (.ref x1), some (.ref x2), v6, v7, v8, v9, v10]) ?_ ?_ ?_
      · exact ⟨by omega, L1, L2, _, o5, _, _, _, _, W5, el1, el2, h5, gd_new, a9_new, rfl⟩
      · clear W5 h5 el1 el2
        rintro t σ H6 ht ⟨_, L1, L2, D, o6, v6, v7, v8, v9, W6, el1, el2, h6, g6, a6, rfl⟩
        have ht8 : t < 8 := by omega
        have hm6 : H6 qm = some (.lst (mdA.map V.str)) := W6.same _ _ hmB1
        have ee : ∀ z : V, (!decide (z = z)) = false := fun z => by simp
        walk_at "rd"
        intro q7 hq7
        have W7 := W6.keep ((Same.refl _).new (o := .lst (wrA.map V.str)) hq7)
        have u7 := upd_same (H := H6) (a := q7) (o := .lst (wrA.map V.str))
        have hm7 := upd_old (o := .lst (wrA.map V.str)) hm6 hq7
        generalize hH7 : upd H6 q7 _ = H7
        rw [show upd H6 q7 (.lst (wrA.map V.str)) = H7 from hH7] at W7 u7 hm7
        clear hH7
        have lc : (mdA.map V.str).length + (wrA.map V.str).length ≤ sizeLine := by rw [sizeLine_eq]; decide
        clear ee
        refine ⟨qm, q7, _, _, rfl, rfl, hm7, u7, lc, fun q8 hq8 => ?_⟩
        rw [show mdA.map V.str ++ wrA.map V.str = deedsA.map V.str from rfl]
        have W8 := W7.keep ((Same.refl _).new (o := .lst (deedsA.map V.str)) hq8)
        have u8 := upd_same (H := H7) (a := q8) (o := .lst (deedsA.map V.str))
        have np8 : q8 ≠ p := Ne.symm (ne_of_none (W7.cl 0 _ rfl) hq8)
        generalize upd H7 q8 (.lst (deedsA.map V.str)) = H8 at W8 u8 ⊢
        clear W7 u7 hm7 hq7 hq8
        have hp8 : H8 p = some o6 := W8.cl 0 _ rfl
        walk_at "rd"
        intro r9 o9 r90 r91 h9
        have W9 : Wd a H1 (upd H8 p o9) [(L1, D), (L2, D)] [(p, o9)] := W8.setC (i := 0) o9 rfl h9.ni
        have u9 := upd_oth (o := o9) np8 u8
        generalize upd H8 p o9 = H9 at W9 u9 ⊢
        clear W8 u8 hp8
        obtain ⟨m, am, hm⟩ := at_str (xs := deedsA) r90 (by rw [List.length_map]; exact r91)
        have hp9 : H9 p = some o9 := W9.cl 0 _ rfl
        walk_at "rd"
        intro w10 o10 H10 hw10 h10 hp10 kp10
        have W10 : Wd a H1 H10 [(L1, D), (L2, D)] [(p, o10)] := W9.putC (i := 0) rfl kp10 hp10 h10.ni
        walk_at "rd"
        intro r11 o11 r110 r111 h11
        have r111 : r11 < 1000000000 := r111
        have W11 : Wd a H1 (upd H10 p o11) [(L1, D), (L2, D)] [(p, o11)] := W10.setC (i := 0) o11 rfl h11.ni
        generalize upd H10 p o11 = H11 at W11 ⊢
        clear W9 W10 hp9 hp10 kp10 u9
        walk_at "rd"
        refine ⟨L1, D, m, w10, r11, by rw [el1]; rfl, deedsA_thing hm, word_thing hw10, W11.db 0 _ rfl, g6.sm (by omega), g6.fl, g6.wf, fun H12 L12 hD12 f12 => ?_⟩
        have W12 : Wd a H1 H12 [(L12, _), (L2, D)] [(p, o11)] := W11.putD (j := 0) rfl hD12 f12
        walk_at "rd"
        refine ⟨L2, D, m, w10, r11, by rw [el2]; rfl, deedsA_thing hm, word_thing hw10, W12.db 1 _ rfl, g6.sm (by omega), g6.fl, g6.wf, fun H13 L13 hD13 f13 => ?_⟩
        have W13 : Wd a H1 H13 [(L12, _), (L13, _)] [(p, o11)] := W12.putD (j := 1) rfl hD13 f13
        have ee : ∀ z : V, (!decide (z = z)) = false := fun z => by simp
        walk_at "rd"
        rw [ee]
        walk_at "rd"
        exact ⟨L12, L13, _, o11, _, _, _, _, W13, f12.db.trans el1, f13.db.trans el2, h11.mono (by omega), g6.tryV hw10 (small9 r110 r111), a6.tryV g6 hw10 (deedsA_mode hm), rfl⟩
      · rintro σ H6 ⟨_, L1, L2, D, o6, v6, v7, v8, v9, W6, el1, el2, h6, g6, a6, rfl⟩
        clear W5 h5
        have l8 : (1 + r5).toNat ≤ 8 := by omega
        have g6 := g6.up l8
        have thA : ∀ H : Hp, Thing H (.str "apart") := fun H => mode_thing (by decide +kernel)
        have thE : ∀ H : Hp, Thing H (.str "") := fun H => .str _ (by decide +kernel) (by unfold asc; decide +kernel)
        have thL : ∀ H : Hp, Thing H (.str "leave") := fun H => .str _ (by decide +kernel) (by unfold asc; decide +kernel)
        have thF : ∀ H : Hp, Thing H (.str "fail") := fun H => .str _ (by decide +kernel) (by unfold asc; decide +kernel)
        have thW : ∀ H : Hp, Thing H (.str "write") := fun H => .str _ (by decide +kernel) (by unfold asc; decide +kernel)
        have ee : ∀ z : V, (!decide (z = z)) = false := fun z => by simp
        refine ⟨fun σ' H' => ∃ L1 L2 D, Wd a H1 H' [(L1, D), (L2, D)] [(p, o6)] ∧ L1.db = x1 ∧ L2.db = x2 ∧ Gd D 9 ∧ A9 D ∧ openD D = true ∧ σ' = [some (.ref sa), some (.ref qm), some (.int (0 + (i : Int))), some (.ref p), some (.ref x1), some (.ref x2), v6, v7, v8, v9, v10], ?_, ?_⟩
        · have hx6 := (W6.db 0 _ rfl).db
          dsimp only at hx6
          rw [el1] at hx6
          walk_at "rd"
          refine ⟨L1, D, by rw [el1], W6.db 0 _ rfl, g6.sm (by omega), ?_⟩
          walk_at "rd"
          cases hop : openD D with
          | false =>
            walk_at "rd"
            refine ⟨L1, D, "apart", "", 0, by rw [el1]; rfl, thA _, thE _, W6.db 0 _ rfl, g6.sm (by omega), g6.fl, g6.wf, fun H7 L7 hD7 f7 => ?_⟩
            have W7 : Wd a H1 H7 [(L7, _), (L2, D)] [(p, o6)] := W6.putD (j := 0) rfl hD7 f7
            walk_at "rd"
            refine ⟨L2, D, "apart", "", 0, by rw [el2]; rfl, thA _, thE _, W7.db 1 _ rfl, g6.sm (by omega), g6.fl, g6.wf, fun H8 L8 hD8 f8 => ?_⟩
            have W8 : Wd a H1 H8 [(L7, _), (L8, _)] [(p, o6)] := W7.putD (j := 1) rfl hD8 f8
            obtain ⟨ea, eo⟩ := apart_open g6 hop
            rw [ea] at W8
            exact ⟨L7, L8, _, W8, f7.db.trans el1, f8.db.trans el2, g6.enter _, a6.enter g6 _, eo, rfl⟩
          | true =>
            walk_at "rd"
            exact ⟨L1, L2, D, W6, el1, el2, g6.up (by omega), a6, hop, rfl⟩
        clear W6 g6 a6 el1 el2
        rintro σ H9 ⟨L1', L2', D', W9, f1, f2, g9, a9, o9, rfl⟩
        obtain ⟨n, rs, st, es, old⟩ := a9.inner g9 o9
        obtain ⟨ei, b9⟩ := B9.start (y := none) es old
        have hx9 := (W9.db 1 _ rfl).db
        dsimp only at hx9
        rw [f2] at hx9
        walk_at "rd"
        refine ⟨L2', D', .str "inner", by rw [f2]; rfl, mode_thing (by decide +kernel), W9.db 1 _ rfl, g9.sm (by omega), fun H10 L10 hD10 f10 => ?_⟩
        have g10 := g9.enter (.str "inner")
        rw [enterV_mode (by decide +kernel), ei] at hD10 g10 ⊢
        have W10 : Wd a H1 H10 [(L1', D'), (L10, _)] [(p, o6)] := W9.putD (j := 1) rfl hD10 f10
        have f3 := f10.db.trans f2
        dsimp only at W10 g10 ⊢
        clear hD10 f10 W9 hx9 ei
        generalize Db.mk (D'.rows ++ []) (some ⟨n, [none] ++ none :: rs⟩ :: st) ([] ++ ("level" : Str) :: D'.entered) D'.floor D'.opened = E at b9 W10 g10
        walk_at "rd"
        refine ⟨H1, _, _, 0, 1, p, o6, L10, E, _, D', n, _, _, 10, by rw [f3]; rfl, W10, rfl, rfl, h6, by omega, g10, by omega, b9, a9.fl, fun H11 L11 E11 o11 rsN U W11 e11 h11 g11 b11 => ?_⟩
        have W11 : Wd a H1 H11 [(L1', D'), (L11, E11)] [(p, o11)] := W11
        have f4 := e11.trans f3
        clear W10 g10 b9 f3 e11
        refine ⟨fun σ' H' => ∃ (_ : Unit) (o12 : HO) (b : Bool), Wd a H1 H' [(L1', D'), (L11, E11)] [(p, o12)] ∧ PoolO o12 30000 ∧ (b = true → (reasonD E11).isSome = true) ∧ σ' = [some (.ref sa), some (.ref qm), some (.int (0 + (i : Int))), some (.ref p), some (.ref x1), some (.ref x2), v6, v7, v8, v9, some (.bl b)], ?_, ?_⟩
        · have hx11 := (W11.db 1 _ rfl).db
          dsimp only at hx11
          rw [f4] at hx11
          have hp11 : H11 p = some o11 := W11.cl 0 _ rfl
          walk_at "rd"
          refine ⟨L11, E11, by rw [f4], W11.db 1 _ rfl, g11.sm (by omega), (reasonD E11).isSome, rfl, ?_⟩
          cases hrs : (reasonD E11).isSome with
          | false =>
            refine iteF ?_
            walk_at "rd"
            exact ⟨(), o11, false, W11, h11.mono (by omega), (fun q => nomatch q), rfl⟩
          | true =>
            refine iteT ?_
            walk_at "rd"
            intro r12 o12 r120 r121 h12
            have W12 : Wd a H1 (upd H11 p o12) [(L1', D'), (L11, E11)] [(p, o12)] := W11.setC (i := 0) o12 rfl h12.ni
            walk_at "rd"
            exact ⟨(), o12, _, W12, h12.mono (by omega), fun _ => rfl, rfl⟩
        clear W11 h11
        rintro σ H12 ⟨_, o12, b, W12, h12, hb, rfl⟩
        refine ⟨fun σ' H' => ∃ L14 E14 o14 b, Wd a H1 H' [(L1', D'), (L14, E14)] [(p, o14)] ∧ L14.db = x2 ∧ R9 D' E14 ∧ Gd E14 30 ∧ PoolO o14 31000 ∧ σ' = [some (.ref sa), some (.ref qm), some (.int (0 + (i : Int))), some (.ref p), some (.ref x1), some (.ref x2), v6, v7, v8, v9, some (.bl b)], ?_, ?_⟩
        · have hp12 : H12 p = some o12 := W12.cl 0 _ rfl
          cases b with
          | false =>
            walk_at "rd"
            intro w13 o13 H13 hw13 h13 hp13 kp13
            have W13 : Wd a H1 H13 [(L1', D'), (L11, E11)] [(p, o13)] := W12.putC (i := 0) rfl kp13 hp13 h13.ni
            walk_at "rd"
            refine ⟨L11, E11, "fail", w13, 0, by rw [f4]; rfl, thF _, word_thing hw13, W13.db 1 _ rfl, g11.sm (by omega), g11.fl, g11.wf, fun H14 L14 hD14 f14 => ?_⟩
            obtain ⟨q1, q2, q3⟩ := b11.close (err := some w13) (c := true) a9.fl (fun e => nomatch e)
            rw [try_fail hw13] at hD14 ⊢
            have ts : tryS (leaveD E11 (some w13) true) = "" := by
              unfold tryS
              rw [q3 (by simp)]; rfl
            rw [ts]
            have g14 : Gd (leaveD E11 (some w13) true).1 30 := (g11.leave fun _ e => Option.some.inj e ▸ hw13).up (by omega)
            have W14 : Wd a H1 H14 [(L1', D'), (L14, _)] [(p, o13)] := W13.putD (j := 1) rfl hD14 f14
            walk_at "rd"
            exact ⟨L14, _, o13, _, W14, f14.db.trans f4, q1, g14, h13.mono (by omega), rfl⟩
          | true =>
            walk_at "rd"
            intro w13 o13 H13 hw13 h13 hp13 kp13
            have W13 : Wd a H1 H13 [(L1', D'), (L11, E11)] [(p, o13)] := W12.putC (i := 0) rfl kp13 hp13 h13.ni
            walk_at "rd"
            refine ⟨L11, E11, "leave", w13, 0, by rw [f4]; rfl, thL _, word_thing hw13, W13.db 1 _ rfl, g11.sm (by omega), g11.fl, g11.wf, fun H14 L14 hD14 f14 => ?_⟩
            obtain ⟨q1, q2, q3⟩ := b11.close (err := none) (c := true) a9.fl (fun _ => b11.doomed (hb rfl))
            rw [try_leave] at hD14 ⊢
            have ts : tryS (leaveD E11 none true) = "error" := by
              unfold tryS
              cases e : (leaveD E11 none true).2 with
              | none => exact absurd e (q2 rfl)
              | some _ => rfl
            rw [ts]
            have g14 : Gd (leaveD E11 none true).1 30 := (g11.leave (err := none) (c := true) fun _ e => nomatch e).up (by omega)
            have W14 : Wd a H1 H14 [(L1', D'), (L14, _)] [(p, o13)] := W13.putD (j := 1) rfl hD14 f14
            walk_at "rd"
            exact ⟨L14, _, o13, _, W14, f14.db.trans f4, q1, g14, h13.mono (by omega), rfl⟩
        clear W12 h12 hb b11 g11 f4
        rintro σ H14 ⟨L14, E14, o14, b, W14, f5, r14, g14, h14, rfl⟩
        walk_at "rd"
        refine ⟨L1', D', 9, by rw [f1]; rfl, W14.db 0 _ rfl, g9, by omega, fun H15 s15 => ?_⟩
        have W15 := W14.keep s15
        walk_at "rd"
        refine ⟨L14, E14, 30, by rw [f5]; rfl, W15.db 1 _ rfl, g14, by omega, fun H16 s16 => ?_⟩
        have W16 := W15.keep s16
        rw [show liveD E14 = liveD D' from r14.seen]
        walk_at "rd"
        rw [ee]
        clear W14 W15 s15 s16
        have hp16 : H16 p = some o14 := W16.cl 0 _ rfl
        walk_at "rd"
        intro w17 o17 H17 hw17 h17 hp17 kp17
        have W17 : Wd a H1 H17 [(L1', D'), (L14, E14)] [(p, o17)] := W16.putC (i := 0) rfl kp17 hp17 h17.ni
        clear W16 hp16 kp17 hp17
        have ge9 := g9.e
        refine ⟨fun mm σ H' => ∃ L1 L2 D E o k v7, D.entered.length = mm ∧ D.entered.length ≤ 20 ∧ Wd a H1 H' [(L1, D), (L2, E)] [(p, o)] ∧ L1.db = x1 ∧ L2.db = x2 ∧ PoolO o (32000 + 4 * (20 - D.entered.length)) ∧ D.floor = 0 ∧ R9 D E ∧ Gd D k ∧ Gd E k ∧ k + D.entered.length ≤ 60 ∧ σ = [some (.ref sa), some (.ref qm), some (.int (0 + (i : Int))), some (.ref p), some (.ref x1), some (.ref x2), v6, v7, some (.str w17), v9, some (.bl b)], ⟨_, L1', L14, D', E14, o17, 30, _, rfl, by omega, W17, f1, f5, h17.mono (by omega), a9.fl, r14, g9.up (by omega), g14, by omega, rfl⟩, ?_⟩
        clear W17 h17 g9 g14 r14 a9 ge9
        rintro mm σ H18 ⟨L1, L2, D, E, o18, k18, v7, em, le, W18, y1, y2, h18, fl, r18, gD, gE, kk, rfl⟩
        have hx18 := (W18.db 0 _ rfl).db
        dsimp only at hx18
        rw [y1] at hx18
        have hp18 : H18 p = some o18 := W18.cl 0 _ rfl
        walk_at "rd"
        refine ⟨L1, D, by rw [y1], W18.db 0 _ rfl, gD.sm (by omega), ?_⟩
        walk_at "rd"
        by_cases hz0 : D.entered = []
        · rw [decide_eq_false (by rw [hz0]; decide)]
          walk_at "rd"
          exact ⟨s1.trans W18.same, _, _, _, _, _, _, _, _, _, rfl⟩
        have lp : 0 < D.entered.length := List.length_pos_iff.mpr hz0
        rw [decide_eq_true (by omega)]
        refine ⟨fun σ H' => ∃ (_ : Unit) (m' : Nat), m' < mm ∧ ∃ L1 L2 D E o k v7, D.entered.length = m' ∧ D.entered.length ≤ 20 ∧ Wd a H1 H' [(L1, D), (L2, E)] [(p, o)] ∧ L1.db = x1 ∧ L2.db = x2 ∧ PoolO o (32000 + 4 * (20 - D.entered.length)) ∧ D.floor = 0 ∧ R9 D E ∧ Gd D k ∧ Gd E k ∧ k + D.entered.length ≤ 60 ∧ σ = [some (.ref sa), some (.ref qm), some (.int (0 + (i : Int))), some (.ref p), some (.ref x1), some (.ref x2), v6, v7, some (.str w17), v9, some (.bl b)], fun σ' H' ⟨_, q⟩ => q, ?_⟩
        walk_at "rd"
        intro q19 hq19
        have W19 := W18.keep ((Same.refl _).new (o := .lst (lfwS.map V.str)) hq19)
        have u19 := upd_same (H := H18) (a := q19) (o := .lst (lfwS.map V.str))
        have np19 : q19 ≠ p := Ne.symm (ne_of_none hp18 hq19)
        rw [show ([V.str "leave", .str "leave", .str "fail", .str "write"] : List V) = lfwS.map V.str from rfl]
        generalize upd H18 q19 (.lst (lfwS.map V.str)) = H19 at W19 u19 ⊢
        have hp19 : H19 p = some o18 := W19.cl 0 _ rfl
        have hb18 : 32000 + 4 * (20 - D.entered.length) < 2 ^ 30 := by omega
        walk_at "rd"
        intro r20 o20 r200 r201 h20
        have W20 : Wd a H1 (upd H19 p o20) [(L1, D), (L2, E)] [(p, o20)] := W19.setC (i := 0) o20 rfl h20.ni
        have u20 := upd_oth (o := o20) np19 u19
        generalize upd H19 p o20 = H20 at W20 u20 ⊢
        obtain ⟨m20, am20, hm20⟩ := at_str (xs := lfwS) r200 (by rw [List.length_map]; exact r201)
        clear W18 W19 hx18 hp18 hp19 u19 h18
        have hm20 : m20 = "leave" ∨ m20 = "fail" ∨ m20 = "write" := by simpa [lfwS] using hm20
        walk_at "rd"
        refine ⟨fun σ' H' => ∃ (_ : Unit) (dd : Str), (dd = "leave" ∨ dd = "fail" ∨ dd = "write") ∧ Wd a H1 H' [(L1, D), (L2, E)] [(p, o20)] ∧ σ' = [some (.ref sa), some (.ref qm), some (.int (0 + (i : Int))), some (.ref p), some (.ref x1), some (.ref x2), v6, some (.str dd), some (.str w17), v9, some (.bl b)], ?_, ?_⟩
        · have hx20 := (W20.db 0 _ rfl).db
          dsimp only at hx20
          rw [y1] at hx20
          walk_at "rd"
          refine ⟨L1, D, by rw [y1], W20.db 0 _ rfl, gD.sm (by omega), ?_⟩
          walk_at "rd"
          cases hd8 : decide ((8 : Int) < (D.entered.length : Int)) with
          | false =>
            walk_at "rd"
            exact ⟨(), m20, hm20, W20, rfl⟩
          | true =>
            rcases hm20 with rfl | rfl | rfl
            · walk_at "rd"
              exact ⟨(), _, .inl rfl, W20, rfl⟩
            · walk_at "rd"
              exact ⟨(), _, .inr (.inl rfl), W20, rfl⟩
            · walk_at "rd"
              exact ⟨(), _, .inl rfl, W20, rfl⟩
        clear W20 hm20 am20 u20
        rintro σ H21 ⟨_, d21, hd21, W21, rfl⟩
        refine ⟨fun σ' H' => ∃ (_ : Unit) (dd : Str) (o : HO), (dd = "leave" ∨ dd = "fail" ∨ dd = "write") ∧ Wd a H1 H' [(L1, D), (L2, E)] [(p, o)] ∧ PoolO o (32000 + 4 * (20 - D.entered.length) + 2) ∧ σ' = [some (.ref sa), some (.ref qm), some (.int (0 + (i : Int))), some (.ref p), some (.ref x1), some (.ref x2), v6, some (.str dd), some (.str w17), v9, some (.bl b)], ?_, ?_⟩
        · have hp21 : H21 p = some o20 := W21.cl 0 _ rfl
          rcases hd21 with rfl | rfl | rfl
          · walk_at "rd"
            exact ⟨(), _, o20, .inl rfl, W21, h20.mono (by omega), rfl⟩
          · walk_at "rd"
            exact ⟨(), _, o20, .inr (.inl rfl), W21, h20.mono (by omega), rfl⟩
          · walk_at "rd"
            intro r22 o22 r220 r221 h22
            have W22 : Wd a H1 (upd H21 p o22) [(L1, D), (L2, E)] [(p, o22)] := W21.setC (i := 0) o22 rfl h22.ni
            walk_at "rd"
            refine ite2 (fun b1 => ?_) (fun b1 => ?_)
            · walk_at "rd"
              exact ⟨(), _, o22, .inl rfl, W22, h22.mono (by omega), rfl⟩
            · walk_at "rd"
              exact ⟨(), _, o22, .inr (.inr rfl), W22, h22.mono (by omega), rfl⟩
        clear W21 h20 hd21
        rintro σ H23 ⟨_, dd, o23, hdd, W23, h23, rfl⟩
        have thD : ∀ H : Hp, Thing H (.str dd) := fun H => by rcases hdd with rfl | rfl | rfl <;> first | exact thL _ | exact thF _ | exact thW _
        walk_at "rd"
        refine ⟨L1, D, dd, w17, 5, by rw [y1]; rfl, thD _, word_thing hw17, W23.db 0 _ rfl, gD.sm (by omega), gD.fl, gD.wf, fun H24 L24 hD24 f24 => ?_⟩
        have W24 : Wd a H1 H24 [(L24, _), (L2, E)] [(p, o23)] := W23.putD (j := 0) rfl hD24 f24
        walk_at "rd"
        refine ⟨L2, E, dd, w17, 5, by rw [y2]; rfl, thD _, word_thing hw17, W24.db 1 _ rfl, gE.sm (by omega), gE.fl, gE.wf, fun H25 L25 hD25 f25 => ?_⟩
        have W25 : Wd a H1 H25 [(L24, _), (L25, _)] [(p, o23)] := W24.putD (j := 1) rfl hD25 f25
        rw [tryS_eq r18 hw17]
        walk_at "rd"
        rw [ee]
        walk_at "rd"
        have y3 := f24.db.trans y1
        have y4 := f25.db.trans y2
        have r2 := (r18.tryV (m := dd) (i := 5) hw17).2
        clear W23 W24 hD24 hD25 f24 f25
        refine ⟨fun σ' H' => ∃ L1 L2 D2 E2 k2 v7, Wd a H1 H' [(L1, D2), (L2, E2)] [(p, o23)] ∧ L1.db = x1 ∧ L2.db = x2 ∧ D2.entered.length + 1 = D.entered.length ∧ D2.floor = 0 ∧ R9 D2 E2 ∧ Gd D2 k2 ∧ Gd E2 k2 ∧ k2 ≤ k18 + 1 ∧ σ' = [some (.ref sa), some (.ref qm), some (.int (0 + (i : Int))), some (.ref p), some (.ref x1), some (.ref x2), v6, v7, some (.str w17), v9, some (.bl b)], ?_, ?_⟩
        · rcases hdd with rfl | rfl | rfl
          · obtain ⟨a1, a2, gd⟩ := try_step (m := "leave") (i := 5) gD fl hz0 hw17 (.inl rfl)
            obtain ⟨_, _, ge⟩ := try_step (m := "leave") (i := 5) gE (r18.ent.2.trans fl) (by rw [r18.ent.1]; exact hz0) hw17 (.inl rfl)
            walk_at "rd"
            exact ⟨_, _, _, _, k18, _, W25, y3, y4, a1, a2, r2, gd, ge, by omega, rfl⟩
          · obtain ⟨a1, a2, gd⟩ := try_step (m := "fail") (i := 5) gD fl hz0 hw17 (.inr rfl)
            obtain ⟨_, _, ge⟩ := try_step (m := "fail") (i := 5) gE (r18.ent.2.trans fl) (by rw [r18.ent.1]; exact hz0) hw17 (.inr rfl)
            walk_at "rd"
            exact ⟨_, _, _, _, k18, _, W25, y3, y4, a1, a2, r2, gd, ge, by omega, rfl⟩
          · obtain ⟨b1, b2, gD2⟩ := try_wr (i := 5) gD hw17 (by decide)
            obtain ⟨_, b3, gE2⟩ := try_wr (i := 5) gE hw17 (by decide)
            generalize (tryV D "write" w17 5).1 = D2 at b1 b2 gD2 W25 r2
            generalize (tryV E "write" w17 5).1 = E2 at b3 gE2 W25 r2
            walk_at "rd"
            refine ⟨L24, D2, "leave", w17, 5, by rw [y3]; rfl, thL _, word_thing hw17, W25.db 0 _ rfl, gD2.sm (by omega), gD2.fl, gD2.wf, fun H26 L26 hD26 f26 => ?_⟩
            have W26 : Wd a H1 H26 [(L26, _), (L25, E2)] [(p, o23)] := W25.putD (j := 0) rfl hD26 f26
            walk_at "rd"
            refine ⟨L25, E2, "leave", w17, 5, by rw [y4]; rfl, thL _, word_thing hw17, W26.db 1 _ rfl, gE2.sm (by omega), gE2.fl, gE2.wf, fun H27 L27 hD27 f27 => ?_⟩
            have W27 : Wd a H1 H27 [(L26, _), (L27, _)] [(p, o23)] := W26.putD (j := 1) rfl hD27 f27
            rw [tryS_eq r2 hw17]
            walk_at "rd"
            rw [ee]
            walk_at "rd"
            obtain ⟨a1, a2, gd⟩ := try_step (m := "leave") (i := 5) gD2 (b2.trans fl) (by rw [b1]; exact hz0) hw17 (.inl rfl)
            rw [b1] at a1
            obtain ⟨_, _, ge⟩ := try_step (m := "leave") (i := 5) gE2 (b3.trans (r18.ent.2.trans fl)) (by rw [r2.ent.1, b1]; exact hz0) hw17 (.inl rfl)
            exact ⟨_, _, _, _, k18 + 1, _, W27, f26.db.trans y3, f27.db.trans y4, a1, a2, (r2.tryV (m := "leave") (i := 5) hw17).2, gd, ge, Nat.le_refl _, rfl⟩
        clear W25 y3 y4 r2
        rintro σ H28 ⟨L28, L29, D2, E2, k2, v7', W28, y3, y4, a1, a2, r2, gd, ge, lk, rfl⟩
        walk_at "rd"
        refine ⟨L28, D2, k2, by rw [y3]; rfl, W28.db 0 _ rfl, gd, by omega, fun H30 s30 => ?_⟩
        have W30 := W28.keep s30
        walk_at "rd"
        refine ⟨L29, E2, k2, by rw [y4]; rfl, W30.db 1 _ rfl, ge, by omega, fun H31 s31 => ?_⟩
        have W31 := W30.keep s31
        rw [show liveD E2 = liveD D2 from r2.seen]
        walk_at "rd"
        rw [ee]
        walk_at "rd"
        exact ⟨(), D2.entered.length, by omega, L28, L29, D2, E2, o23, k2, _, rfl, by omega, W31, y3, y4, h23.mono (by omega), a2, r2, gd, ge, by omega, rfl⟩
    · rintro σ H1 ⟨_, s1, v2, v3, v4, v5, v6, v7, v8, v9, v10, rfl⟩
      exact k H1
end
theorem all_mk {w : World} {K : PySem.W.Frag} {h : Heap} {mg : Str → Option Value} {fa : Addr} (X : K.In h) (G : h.Ns mainGlobals mg) (hfa : mg "law" = some (.ref fa))
    {C1 : Addr}
    {t6 : Tok}
    {t8 : Tok}
    {t10 : Tok}
    {t12 : Tok}
    {t14 : Tok}
    {t16 : Tok}
    {t18 : Tok}
    {t20 : Tok}
    {t24 t25 t26 t27 t28 t29 t30 t31 : Tok} {p22 : Addr} {dd32 : Option Addr} {nn33 : Nat} {sl34 : Array (Option Value)}
    {f35 p36 : Addr} {rs39 : List Value}
    {od40 an40 : Option Addr} {sl40 : Array (Option Value)} {oc40 kV40 dc40 pm40 cd40 ct40 : Value}
    {f41 : Addr}
    {od43 an43 : Option Addr} {sl43 : Array (Option Value)} {oc43 kV43 dc43 pm43 cd43 ct43 : Value}
    {C45 : Addr}
    {C47 : Addr}
    {f49 : Addr} {nm50 qn50 : Str} {N50 : Addr} {bs50 bm50 : List Value} {sn50 : List Str} {sub50 : List Value} {ab50 : Bool} {col50 : Option Bool} {dd50 : Option Addr} {k050 k150 k250 k350 k550 : Option Value}
    {oc50 : Value} {od50 : Option Addr} {doc50 pm50 : Value} {an50 : Option Addr} {cda50 cc50 : Addr} {ct50 : Value} {osl50 : Array (Option Value)} {ccl50 : Value} {cdd50 : Option Addr} {vs50 : Array Value} {ccs50 : Array (Option Value)} {tf50 : Tok} {cl50 : Value} {cld50 : Option Addr} {csl50 : Array (Option Value)}
    {C73 : Addr}
    {f75 : Addr} {nm76 qn76 : Str} {N76 : Addr} {bs76 bm76 : List Value} {sn76 : List Str} {sub76 : List Value} {ab76 : Bool} {col76 : Option Bool} {dd76 : Option Addr} {k076 k176 k276 k376 k576 : Option Value}
    {oc76 : Value} {od76 : Option Addr} {doc76 pm76 : Value} {an76 : Option Addr} {cda76 cc76 : Addr} {ct76 : Value} {osl76 : Array (Option Value)} {ccl76 : Value} {cdd76 : Option Addr} {vs76 : Array Value} {ccs76 : Array (Option Value)} {tf76 : Tok} {cl76 : Value} {cld76 : Option Addr} {csl76 : Array (Option Value)}
    {C99 : Addr}
    {f101 : Addr} {nm102 qn102 : Str} {N102 : Addr} {bs102 bm102 : List Value} {sn102 : List Str} {sub102 : List Value} {ab102 : Bool} {col102 : Option Bool} {dd102 : Option Addr} {k0102 k1102 k2102 k3102 k5102 : Option Value}
    {oc102 : Value} {od102 : Option Addr} {doc102 pm102 : Value} {an102 : Option Addr} {cda102 cc102 : Addr} {ct102 : Value} {osl102 : Array (Option Value)} {ccl102 : Value} {cdd102 : Option Addr} {vs102 : Array Value} {ccs102 : Array (Option Value)} {tf102 : Tok} {cl102 : Value} {cld102 : Option Addr} {csl102 : Array (Option Value)}
    {C125 : Addr}
    {f127 : Addr} {nm128 qn128 : Str} {N128 : Addr} {bs128 bm128 : List Value} {sn128 : List Str} {sub128 : List Value} {ab128 : Bool} {col128 : Option Bool} {dd128 : Option Addr} {k0128 k1128 k2128 k3128 k5128 : Option Value}
    {oc128 : Value} {od128 : Option Addr} {doc128 pm128 : Value} {an128 : Option Addr} {cda128 cc128 : Addr} {ct128 : Value} {osl128 : Array (Option Value)} {ccl128 : Value} {cdd128 : Option Addr} {vs128 : Array Value} {ccs128 : Array (Option Value)} {tf128 : Tok} {cl128 : Value} {cld128 : Option Addr} {csl128 : Array (Option Value)}
    {C150 : Addr}
    {f152 : Addr} {nm153 qn153 : Str} {N153 : Addr} {bs153 bm153 : List Value} {sn153 : List Str} {sub153 : List Value} {ab153 : Bool} {col153 : Option Bool} {dd153 : Option Addr} {k0153 k1153 k2153 k3153 k5153 : Option Value}
    {oc153 : Value} {od153 : Option Addr} {doc153 pm153 : Value} {an153 : Option Addr} {cda153 cc153 : Addr} {ct153 : Value} {osl153 : Array (Option Value)} {ccl153 : Value} {cdd153 : Option Addr} {vs153 : Array Value} {ccs153 : Array (Option Value)} {tf153 : Tok} {cl153 : Value} {cld153 : Option Addr} {csl153 : Array (Option Value)}
    {C174 : Addr}
    {f176 : Addr} {nm177 qn177 : Str} {N177 : Addr} {bs177 bm177 : List Value} {sn177 : List Str} {sub177 : List Value} {ab177 : Bool} {col177 : Option Bool} {dd177 : Option Addr} {k0177 k1177 k2177 k3177 k5177 : Option Value}
    {oc177 : Value} {od177 : Option Addr} {doc177 pm177 : Value} {an177 : Option Addr} {cda177 cc177 : Addr} {ct177 : Value} {osl177 : Array (Option Value)} {ccl177 : Value} {cdd177 : Option Addr} {vs177 : Array Value} {ccs177 : Array (Option Value)} {tf177 : Tok} {cl177 : Value} {cld177 : Option Addr} {csl177 : Array (Option Value)}
    {C200 : Addr}
    {f202 : Addr} {nm203 qn203 : Str} {N203 : Addr} {bs203 bm203 : List Value} {sn203 : List Str} {sub203 : List Value} {ab203 : Bool} {col203 : Option Bool} {dd203 : Option Addr} {k0203 k1203 k2203 k3203 k5203 : Option Value}
    {oc203 : Value} {od203 : Option Addr} {doc203 pm203 : Value} {an203 : Option Addr} {cda203 cc203 : Addr} {ct203 : Value} {osl203 : Array (Option Value)} {ccl203 : Value} {cdd203 : Option Addr} {vs203 : Array Value} {ccs203 : Array (Option Value)} {tf203 : Tok} {cl203 : Value} {cld203 : Option Addr} {csl203 : Array (Option Value)}
    {C225 : Addr}
    {f227 : Addr} {nm228 qn228 : Str} {N228 : Addr} {bs228 bm228 : List Value} {sn228 : List Str} {sub228 : List Value} {ab228 : Bool} {col228 : Option Bool} {dd228 : Option Addr} {k0228 k1228 k2228 k3228 k5228 : Option Value}
    {oc228 : Value} {od228 : Option Addr} {doc228 pm228 : Value} {an228 : Option Addr} {cda228 cc228 : Addr} {ct228 : Value} {osl228 : Array (Option Value)} {ccl228 : Value} {cdd228 : Option Addr} {vs228 : Array Value} {ccs228 : Array (Option Value)} {tf228 : Tok} {cl228 : Value} {cld228 : Option Addr} {csl228 : Array (Option Value)}
    {C250 : Addr}
    {f252 : Addr} {nm253 qn253 : Str} {N253 : Addr} {bs253 bm253 : List Value} {sn253 : List Str} {sub253 : List Value} {ab253 : Bool} {col253 : Option Bool} {dd253 : Option Addr} {k0253 k1253 k2253 k3253 k5253 : Option Value}
    {oc253 : Value} {od253 : Option Addr} {doc253 pm253 : Value} {an253 : Option Addr} {cda253 cc253 : Addr} {ct253 : Value} {osl253 : Array (Option Value)} {ccl253 : Value} {cdd253 : Option Addr} {vs253 : Array Value} {ccs253 : Array (Option Value)} {tf253 : Tok} {cl253 : Value} {cld253 : Option Addr} {csl253 : Array (Option Value)}
    {C284 : Addr}
    {f295 : Addr}
    {od300 an300 : Option Addr} {sl300 : Array (Option Value)} {oc300 kV300 dc300 pm300 cd300 ct300 : Value}
    {C301 : Addr}
    {f309 : Addr}
    {od314 an314 : Option Addr} {sl314 : Array (Option Value)} {oc314 kV314 dc314 pm314 cd314 ct314 : Value}
    {C315 : Addr}
    {f326 : Addr}
    {od331 an331 : Option Addr} {sl331 : Array (Option Value)} {oc331 kV331 dc331 pm331 cd331 ct331 : Value}
    {f332 : Addr}
    {od335 an335 : Option Addr} {sl335 : Array (Option Value)} {oc335 kV335 dc335 pm335 cd335 ct335 : Value}
    {f336 : Addr}
    {od339 an339 : Option Addr} {sl339 : Array (Option Value)} {oc339 kV339 dc339 pm339 cd339 ct339 : Value}
    {f340 : Addr}
    {od343 an343 : Option Addr} {sl343 : Array (Option Value)} {oc343 kV343 dc343 pm343 cd343 ct343 : Value}
    {f344 : Addr}
    {od347 an347 : Option Addr} {sl347 : Array (Option Value)} {oc347 kV347 dc347 pm347 cd347 ct347 : Value}
    {f348 : Addr}
    {od351 an351 : Option Addr} {sl351 : Array (Option Value)} {oc351 dc351 pm351 cd351 ct351 : Value}
    {T352 : Addr} {oc353 : Value} {od354 : Option Addr} {on355 : Nat} {os356 : Array (Option Value)}
    {t357 : Tok}
    {kV351 : Value}
    {f359 : Addr}
    {od362 an362 : Option Addr} {sl362 : Array (Option Value)} {oc362 kV362 dc362 pm362 cd362 ct362 : Value}
    {f363 : Addr}
    {od366 an366 : Option Addr} {sl366 : Array (Option Value)} {oc366 kV366 dc366 pm366 cd366 ct366 : Value}
    {f367 : Addr}
    {od370 an370 : Option Addr} {sl370 : Array (Option Value)} {oc370 dc370 pm370 cd370 ct370 : Value}
    {T371 : Addr} {oc372 : Value} {od373 : Option Addr} {on374 : Nat} {os375 : Array (Option Value)}
    {D378 : Addr}
    {f381 : Addr}
    {od384 an384 : Option Addr} {sl384 : Array (Option Value)} {oc384 kV384 dc384 pm384 cd384 ct384 : Value}
    {f385 : Addr}
    {od388 an388 : Option Addr} {sl388 : Array (Option Value)} {oc388 kV388 dc388 pm388 cd388 ct388 : Value}
    {f389 : Addr}
    {od392 an392 : Option Addr} {sl392 : Array (Option Value)} {oc392 kV392 dc392 pm392 cd392 ct392 : Value}
    {f393 : Addr}
    {od396 an396 : Option Addr} {sl396 : Array (Option Value)} {oc396 kV396 dc396 pm396 cd396 ct396 : Value}
    {f397 : Addr}
    {od400 an400 : Option Addr} {sl400 : Array (Option Value)} {oc400 kV400 dc400 pm400 cd400 ct400 : Value}
    {f401 : Addr}
    {od404 an404 : Option Addr} {sl404 : Array (Option Value)} {oc404 kV404 dc404 pm404 cd404 ct404 : Value}
    {f405 : Addr}
    {od408 an408 : Option Addr} {sl408 : Array (Option Value)} {oc408 kV408 dc408 pm408 cd408 ct408 : Value}
    {f409 : Addr}
    {od412 an412 : Option Addr} {sl412 : Array (Option Value)} {oc412 kV412 dc412 pm412 cd412 ct412 : Value}
    {f413 p414 : Addr} {rs415 : List Value}
    {od420 an420 : Option Addr} {sl420 : Array (Option Value)} {oc420 kV420 dc420 pm420 cd420 ct420 : Value}
    {f421 p422 : Addr} {rs423 : List Value}
    {od428 an428 : Option Addr} {sl428 : Array (Option Value)} {oc428 kV428 dc428 pm428 cd428 ct428 : Value}
    {f429 p430 : Addr} {rs431 : List Value}
    {od436 an436 : Option Addr} {sl436 : Array (Option Value)} {oc436 kV436 dc436 pm436 cd436 ct436 : Value}
    {f437 p438 : Addr} {rs439 : List Value}
    {od444 an444 : Option Addr} {sl444 : Array (Option Value)} {oc444 kV444 dc444 pm444 cd444 ct444 : Value}
    {f445 p446 : Addr} {rs447 : List Value}
    {od452 an452 : Option Addr} {sl452 : Array (Option Value)} {oc452 kV452 dc452 pm452 cd452 ct452 : Value}
    {f454 : Addr}
    {od456 an456 : Option Addr} {sl456 : Array (Option Value)} {oc456 kV456 dc456 pm456 cd456 ct456 : Value}
    {f457 : Addr}
    {od459 an459 : Option Addr} {sl459 : Array (Option Value)} {oc459 kV459 dc459 pm459 cd459 ct459 : Value}
    {f460 : Addr}
    {od462 an462 : Option Addr} {sl462 : Array (Option Value)} {oc462 kV462 dc462 pm462 cd462 ct462 : Value}
    {f463 : Addr}
    {od465 an465 : Option Addr} {sl465 : Array (Option Value)} {oc465 kV465 dc465 pm465 cd465 ct465 : Value}
    {f466 : Addr}
    {od468 an468 : Option Addr} {sl468 : Array (Option Value)} {oc468 kV468 dc468 pm468 cd468 ct468 : Value}
    {f469 : Addr}
    {od471 an471 : Option Addr} {sl471 : Array (Option Value)} {oc471 kV471 dc471 pm471 cd471 ct471 : Value}
    {od472 an472 : Option Addr} {sl472 : Array (Option Value)} {oc472 kV472 dc472 pm472 cd472 ct472 : Value}
    (a2 : PySem.W.nsIn K mainGlobals "Mode" = some (some (.ref C1)))
    (r3 : PySem.W.readsIn K C1 (.type "type") = true)
    (s4 : PySem.W.specialIn K (.ref C1) "__getattribute__" = some (some (.builtin "type.__getattribute__")))
    (z5 : PySem.W.findCls K (.ref C1) (.type "type") "JOIN" = some (.val (.str "join" t6)))
    (z7 : PySem.W.findCls K (.ref C1) (.type "type") "INNER" = some (.val (.str "inner" t8)))
    (z9 : PySem.W.findCls K (.ref C1) (.type "type") "APART" = some (.val (.str "apart" t10)))
    (z11 : PySem.W.findCls K (.ref C1) (.type "type") "MUST" = some (.val (.str "must" t12)))
    (z13 : PySem.W.findCls K (.ref C1) (.type "type") "EITHER" = some (.val (.str "either" t14)))
    (z15 : PySem.W.findCls K (.ref C1) (.type "type") "NEVER" = some (.val (.str "never" t16)))
    (z17 : PySem.W.findCls K (.ref C1) (.type "type") "OUTSIDE" = some (.val (.str "outside" t18)))
    (z19 : PySem.W.findCls K (.ref C1) (.type "type") "ALONE" = some (.val (.str "alone" t20)))
    (z21 : PySem.W.findCls K (.ref C1) (.type "type") "ALL" = some (.val (.ref p22)))
    (l23 : K.lookup p22 = some ⟨.type "tuple", dd32, .seq #[.str "join" t24, .str "inner" t25, .str "apart" t26, .str "must" t27, .str "either" t28, .str "never" t29, .str "outside" t30, .str "alone" t31] nn33, sl34⟩)
    (z37 : PySem.W.findCls K (.ref C1) (.type "type") "is_mode" = some (.get (.builtin "staticmethod.__get__") (.ref p36) .none (.ref C1)))
    (r38 : PySem.W.recIn K p36 "staticmethod" = some (.ref f35 :: rs39))
    (l40 : K.lookup f35 = some ⟨oc40, od40, .func (PySem.W.fnOf "is_mode" "Mode.is_mode" (defArgs s_Mode_is_mode) (defBody s_Mode_is_mode) (defScope s_Mode_is_mode) .none kV40 dc40 pm40 an40 cd40 ct40), sl40⟩)
    (c40 : PySem.W.codeIn K cd40 "Mode.is_mode" = true)
    (k40 : PySem.W.keepIn K (.ref f35) = true)
    (a42 : PySem.W.nsIn K mainGlobals "is_word" = some (some (.ref f41)))
    (l43 : K.lookup f41 = some ⟨oc43, od43, .func (PySem.W.fnOf "is_word" "is_word" (defArgs s_is_word) (defBody s_is_word) (defScope s_is_word) .none kV43 dc43 pm43 an43 cd43 ct43), sl43⟩)
    (c43 : PySem.W.codeIn K cd43 "is_word" = true)
    (k43 : PySem.W.keepIn K (.ref f41) = true)
    (z44 : PySem.W.nsIn K cStatics "thirdparty.any" = some none)
    (a46 : PySem.W.nsIn K mainGlobals "InnercommitsError" = some (some (.ref C45)))
    (a48 : PySem.W.nsIn K mainGlobals "Missing" = some (some (.ref C47)))
    (e51 : K.lookup C47 = some (excClassObj nm50 qn50 C47 N50 bs50 bm50 true sn50 sub50 ab50 col50 dd50 k050 k150 k250 k350 k550 "ValueError.__new__"))
    (e52 : PySem.HandSPX.refsVE bm50 = true)
    (e53 : PySem.W.findIn K (.ref C47) "__setattr__" = some (some (.builtin "object.__setattr__")))
    (e54 : PySem.W.findIn K (.ref C47) "__getattribute__" = some (some (.builtin "BaseException.__getattribute__")))
    (e55 : PySem.W.findIn K (.ref C47) "__getattr__" = some none)
    (e56 : PySem.W.findIn K (.ref C47) "__init__" = some (some (.ref f49)))
    (e57 : PySem.W.typeIn K (.ref f49) = some (.type "function"))
    (e58 : PySem.W.keepIn K (.ref C47) = true)
    (e59 : PySem.W.subIn K (.ref C47) (.type "BaseException") = some true)
    (e60 : PySem.W.subIn K (.ref C47) (.type "ValueError") = some true)
    (e61 : PySem.W.typeIn K (.ref C47) = some (.type "type"))
    (e62 : PySem.W.hasDictIn K C47 = true)
    (e63 : PySem.W.ks_superIn K C47 C47 "__init__" = some (some (.builtin "ValueError.__init__")))
    (e64 : PySem.W.mroIn K C47 (.ref C47) = some true)
    (e65 : PySem.W.exmOne K (.ref C47) (.ref C47) = some true)
    (e66 : K.lookup f49 = some ⟨oc50, od50, .func (PySem.W.ksFn "__init__" "Missing.__init__" (defArgs s_MissingU_initU) (defBody s_MissingU_initU) (defScope s_MissingU_initU) .none .none doc50 pm50 an50 (.ref cda50) ct50 cc50), osl50⟩)
    (e67 : PySem.W.codeIn K (.ref cda50) "Missing.__init__" = true)
    (e68 : K.lookup cda50 = some ⟨ccl50, cdd50, .fields vs50, ccs50⟩)
    (e69 : vs50[2]? = some (.str P.main.file tf50))
    (e70 : K.lookup cc50 = some ⟨cl50, cld50, .cell (some (.ref C47)), csl50⟩)
    (e71 : PySem.W.findIn K (.ref C47) "word" = some none)
    (e72 : PySem.W.findIn K (.ref C47) "mode" = some none)
    (a74 : PySem.W.nsIn K mainGlobals "Present" = some (some (.ref C73)))
    (e77 : K.lookup C73 = some (excClassObj nm76 qn76 C73 N76 bs76 bm76 true sn76 sub76 ab76 col76 dd76 k076 k176 k276 k376 k576 "ValueError.__new__"))
    (e78 : PySem.HandSPX.refsVE bm76 = true)
    (e79 : PySem.W.findIn K (.ref C73) "__setattr__" = some (some (.builtin "object.__setattr__")))
    (e80 : PySem.W.findIn K (.ref C73) "__getattribute__" = some (some (.builtin "BaseException.__getattribute__")))
    (e81 : PySem.W.findIn K (.ref C73) "__getattr__" = some none)
    (e82 : PySem.W.findIn K (.ref C73) "__init__" = some (some (.ref f75)))
    (e83 : PySem.W.typeIn K (.ref f75) = some (.type "function"))
    (e84 : PySem.W.keepIn K (.ref C73) = true)
    (e85 : PySem.W.subIn K (.ref C73) (.type "BaseException") = some true)
    (e86 : PySem.W.subIn K (.ref C73) (.type "ValueError") = some true)
    (e87 : PySem.W.typeIn K (.ref C73) = some (.type "type"))
    (e88 : PySem.W.hasDictIn K C73 = true)
    (e89 : PySem.W.ks_superIn K C73 C73 "__init__" = some (some (.builtin "ValueError.__init__")))
    (e90 : PySem.W.mroIn K C73 (.ref C73) = some true)
    (e91 : PySem.W.exmOne K (.ref C73) (.ref C73) = some true)
    (e92 : K.lookup f75 = some ⟨oc76, od76, .func (PySem.W.ksFn "__init__" "Present.__init__" (defArgs s_PresentU_initU) (defBody s_PresentU_initU) (defScope s_PresentU_initU) .none .none doc76 pm76 an76 (.ref cda76) ct76 cc76), osl76⟩)
    (e93 : PySem.W.codeIn K (.ref cda76) "Present.__init__" = true)
    (e94 : K.lookup cda76 = some ⟨ccl76, cdd76, .fields vs76, ccs76⟩)
    (e95 : vs76[2]? = some (.str P.main.file tf76))
    (e96 : K.lookup cc76 = some ⟨cl76, cld76, .cell (some (.ref C73)), csl76⟩)
    (e97 : PySem.W.findIn K (.ref C73) "word" = some none)
    (e98 : PySem.W.findIn K (.ref C73) "mode" = some none)
    (a100 : PySem.W.nsIn K mainGlobals "Doomed" = some (some (.ref C99)))
    (e103 : K.lookup C99 = some (excClassObj nm102 qn102 C99 N102 bs102 bm102 true sn102 sub102 ab102 col102 dd102 k0102 k1102 k2102 k3102 k5102 "ValueError.__new__"))
    (e104 : PySem.HandSPX.refsVE bm102 = true)
    (e105 : PySem.W.findIn K (.ref C99) "__setattr__" = some (some (.builtin "object.__setattr__")))
    (e106 : PySem.W.findIn K (.ref C99) "__getattribute__" = some (some (.builtin "BaseException.__getattribute__")))
    (e107 : PySem.W.findIn K (.ref C99) "__getattr__" = some none)
    (e108 : PySem.W.findIn K (.ref C99) "__init__" = some (some (.ref f101)))
    (e109 : PySem.W.typeIn K (.ref f101) = some (.type "function"))
    (e110 : PySem.W.keepIn K (.ref C99) = true)
    (e111 : PySem.W.subIn K (.ref C99) (.type "BaseException") = some true)
    (e112 : PySem.W.subIn K (.ref C99) (.type "ValueError") = some true)
    (e113 : PySem.W.typeIn K (.ref C99) = some (.type "type"))
    (e114 : PySem.W.hasDictIn K C99 = true)
    (e115 : PySem.W.ks_superIn K C99 C99 "__init__" = some (some (.builtin "ValueError.__init__")))
    (e116 : PySem.W.mroIn K C99 (.ref C99) = some true)
    (e117 : PySem.W.exmOne K (.ref C99) (.ref C99) = some true)
    (e118 : K.lookup f101 = some ⟨oc102, od102, .func (PySem.W.ksFn "__init__" "Doomed.__init__" (defArgs s_DoomedU_initU) (defBody s_DoomedU_initU) (defScope s_DoomedU_initU) .none .none doc102 pm102 an102 (.ref cda102) ct102 cc102), osl102⟩)
    (e119 : PySem.W.codeIn K (.ref cda102) "Doomed.__init__" = true)
    (e120 : K.lookup cda102 = some ⟨ccl102, cdd102, .fields vs102, ccs102⟩)
    (e121 : vs102[2]? = some (.str P.main.file tf102))
    (e122 : K.lookup cc102 = some ⟨cl102, cld102, .cell (some (.ref C99)), csl102⟩)
    (e123 : PySem.W.findIn K (.ref C99) "word" = some none)
    (e124 : PySem.W.findIn K (.ref C99) "first" = some none)
    (a126 : PySem.W.nsIn K mainGlobals "Refused" = some (some (.ref C125)))
    (e129 : K.lookup C125 = some (excClassObj nm128 qn128 C125 N128 bs128 bm128 true sn128 sub128 ab128 col128 dd128 k0128 k1128 k2128 k3128 k5128 "ValueError.__new__"))
    (e130 : PySem.HandSPX.refsVE bm128 = true)
    (e131 : PySem.W.findIn K (.ref C125) "__setattr__" = some (some (.builtin "object.__setattr__")))
    (e132 : PySem.W.findIn K (.ref C125) "__getattribute__" = some (some (.builtin "BaseException.__getattribute__")))
    (e133 : PySem.W.findIn K (.ref C125) "__getattr__" = some none)
    (e134 : PySem.W.findIn K (.ref C125) "__init__" = some (some (.ref f127)))
    (e135 : PySem.W.typeIn K (.ref f127) = some (.type "function"))
    (e136 : PySem.W.keepIn K (.ref C125) = true)
    (e137 : PySem.W.subIn K (.ref C125) (.type "BaseException") = some true)
    (e138 : PySem.W.subIn K (.ref C125) (.type "ValueError") = some true)
    (e139 : PySem.W.typeIn K (.ref C125) = some (.type "type"))
    (e140 : PySem.W.hasDictIn K C125 = true)
    (e141 : PySem.W.ks_superIn K C125 C125 "__init__" = some (some (.builtin "ValueError.__init__")))
    (e142 : PySem.W.mroIn K C125 (.ref C125) = some true)
    (e143 : PySem.W.exmOne K (.ref C125) (.ref C125) = some true)
    (e144 : K.lookup f127 = some ⟨oc128, od128, .func (PySem.W.ksFn "__init__" "Refused.__init__" (defArgs s_RefusedU_initU) (defBody s_RefusedU_initU) (defScope s_RefusedU_initU) .none .none doc128 pm128 an128 (.ref cda128) ct128 cc128), osl128⟩)
    (e145 : PySem.W.codeIn K (.ref cda128) "Refused.__init__" = true)
    (e146 : K.lookup cda128 = some ⟨ccl128, cdd128, .fields vs128, ccs128⟩)
    (e147 : vs128[2]? = some (.str P.main.file tf128))
    (e148 : K.lookup cc128 = some ⟨cl128, cld128, .cell (some (.ref C125)), csl128⟩)
    (e149 : PySem.W.findIn K (.ref C125) "word" = some none)
    (a151 : PySem.W.nsIn K mainGlobals "NoBlock" = some (some (.ref C150)))
    (e154 : K.lookup C150 = some (excClassObj nm153 qn153 C150 N153 bs153 bm153 true sn153 sub153 ab153 col153 dd153 k0153 k1153 k2153 k3153 k5153 "ValueError.__new__"))
    (e155 : PySem.HandSPX.refsVE bm153 = true)
    (e156 : PySem.W.findIn K (.ref C150) "__setattr__" = some (some (.builtin "object.__setattr__")))
    (e157 : PySem.W.findIn K (.ref C150) "__getattribute__" = some (some (.builtin "BaseException.__getattribute__")))
    (e158 : PySem.W.findIn K (.ref C150) "__getattr__" = some none)
    (e159 : PySem.W.findIn K (.ref C150) "__init__" = some (some (.ref f152)))
    (e160 : PySem.W.typeIn K (.ref f152) = some (.type "function"))
    (e161 : PySem.W.keepIn K (.ref C150) = true)
    (e162 : PySem.W.subIn K (.ref C150) (.type "BaseException") = some true)
    (e163 : PySem.W.subIn K (.ref C150) (.type "ValueError") = some true)
    (e164 : PySem.W.typeIn K (.ref C150) = some (.type "type"))
    (e165 : PySem.W.hasDictIn K C150 = true)
    (e166 : PySem.W.ks_superIn K C150 C150 "__init__" = some (some (.builtin "ValueError.__init__")))
    (e167 : PySem.W.mroIn K C150 (.ref C150) = some true)
    (e168 : PySem.W.exmOne K (.ref C150) (.ref C150) = some true)
    (e169 : K.lookup f152 = some ⟨oc153, od153, .func (PySem.W.ksFn "__init__" "NoBlock.__init__" (defArgs s_NoBlockU_initU) (defBody s_NoBlockU_initU) (defScope s_NoBlockU_initU) .none .none doc153 pm153 an153 (.ref cda153) ct153 cc153), osl153⟩)
    (e170 : PySem.W.codeIn K (.ref cda153) "NoBlock.__init__" = true)
    (e171 : K.lookup cda153 = some ⟨ccl153, cdd153, .fields vs153, ccs153⟩)
    (e172 : vs153[2]? = some (.str P.main.file tf153))
    (e173 : K.lookup cc153 = some ⟨cl153, cld153, .cell (some (.ref C150)), csl153⟩)
    (a175 : PySem.W.nsIn K mainGlobals "Waits" = some (some (.ref C174)))
    (e178 : K.lookup C174 = some (excClassObj nm177 qn177 C174 N177 bs177 bm177 true sn177 sub177 ab177 col177 dd177 k0177 k1177 k2177 k3177 k5177 "ValueError.__new__"))
    (e179 : PySem.HandSPX.refsVE bm177 = true)
    (e180 : PySem.W.findIn K (.ref C174) "__setattr__" = some (some (.builtin "object.__setattr__")))
    (e181 : PySem.W.findIn K (.ref C174) "__getattribute__" = some (some (.builtin "BaseException.__getattribute__")))
    (e182 : PySem.W.findIn K (.ref C174) "__getattr__" = some none)
    (e183 : PySem.W.findIn K (.ref C174) "__init__" = some (some (.ref f176)))
    (e184 : PySem.W.typeIn K (.ref f176) = some (.type "function"))
    (e185 : PySem.W.keepIn K (.ref C174) = true)
    (e186 : PySem.W.subIn K (.ref C174) (.type "BaseException") = some true)
    (e187 : PySem.W.subIn K (.ref C174) (.type "ValueError") = some true)
    (e188 : PySem.W.typeIn K (.ref C174) = some (.type "type"))
    (e189 : PySem.W.hasDictIn K C174 = true)
    (e190 : PySem.W.ks_superIn K C174 C174 "__init__" = some (some (.builtin "ValueError.__init__")))
    (e191 : PySem.W.mroIn K C174 (.ref C174) = some true)
    (e192 : PySem.W.exmOne K (.ref C174) (.ref C174) = some true)
    (e193 : K.lookup f176 = some ⟨oc177, od177, .func (PySem.W.ksFn "__init__" "Waits.__init__" (defArgs s_WaitsU_initU) (defBody s_WaitsU_initU) (defScope s_WaitsU_initU) .none .none doc177 pm177 an177 (.ref cda177) ct177 cc177), osl177⟩)
    (e194 : PySem.W.codeIn K (.ref cda177) "Waits.__init__" = true)
    (e195 : K.lookup cda177 = some ⟨ccl177, cdd177, .fields vs177, ccs177⟩)
    (e196 : vs177[2]? = some (.str P.main.file tf177))
    (e197 : K.lookup cc177 = some ⟨cl177, cld177, .cell (some (.ref C174)), csl177⟩)
    (e198 : PySem.W.findIn K (.ref C174) "word" = some none)
    (e199 : PySem.W.findIn K (.ref C174) "record" = some none)
    (a201 : PySem.W.nsIn K mainGlobals "NoRecord" = some (some (.ref C200)))
    (e204 : K.lookup C200 = some (excClassObj nm203 qn203 C200 N203 bs203 bm203 true sn203 sub203 ab203 col203 dd203 k0203 k1203 k2203 k3203 k5203 "ValueError.__new__"))
    (e205 : PySem.HandSPX.refsVE bm203 = true)
    (e206 : PySem.W.findIn K (.ref C200) "__setattr__" = some (some (.builtin "object.__setattr__")))
    (e207 : PySem.W.findIn K (.ref C200) "__getattribute__" = some (some (.builtin "BaseException.__getattribute__")))
    (e208 : PySem.W.findIn K (.ref C200) "__getattr__" = some none)
    (e209 : PySem.W.findIn K (.ref C200) "__init__" = some (some (.ref f202)))
    (e210 : PySem.W.typeIn K (.ref f202) = some (.type "function"))
    (e211 : PySem.W.keepIn K (.ref C200) = true)
    (e212 : PySem.W.subIn K (.ref C200) (.type "BaseException") = some true)
    (e213 : PySem.W.subIn K (.ref C200) (.type "ValueError") = some true)
    (e214 : PySem.W.typeIn K (.ref C200) = some (.type "type"))
    (e215 : PySem.W.hasDictIn K C200 = true)
    (e216 : PySem.W.ks_superIn K C200 C200 "__init__" = some (some (.builtin "ValueError.__init__")))
    (e217 : PySem.W.mroIn K C200 (.ref C200) = some true)
    (e218 : PySem.W.exmOne K (.ref C200) (.ref C200) = some true)
    (e219 : K.lookup f202 = some ⟨oc203, od203, .func (PySem.W.ksFn "__init__" "NoRecord.__init__" (defArgs s_NoRecordU_initU) (defBody s_NoRecordU_initU) (defScope s_NoRecordU_initU) .none .none doc203 pm203 an203 (.ref cda203) ct203 cc203), osl203⟩)
    (e220 : PySem.W.codeIn K (.ref cda203) "NoRecord.__init__" = true)
    (e221 : K.lookup cda203 = some ⟨ccl203, cdd203, .fields vs203, ccs203⟩)
    (e222 : vs203[2]? = some (.str P.main.file tf203))
    (e223 : K.lookup cc203 = some ⟨cl203, cld203, .cell (some (.ref C200)), csl203⟩)
    (e224 : PySem.W.findIn K (.ref C200) "record" = some none)
    (a226 : PySem.W.nsIn K mainGlobals "BadWord" = some (some (.ref C225)))
    (e229 : K.lookup C225 = some (excClassObj nm228 qn228 C225 N228 bs228 bm228 true sn228 sub228 ab228 col228 dd228 k0228 k1228 k2228 k3228 k5228 "ValueError.__new__"))
    (e230 : PySem.HandSPX.refsVE bm228 = true)
    (e231 : PySem.W.findIn K (.ref C225) "__setattr__" = some (some (.builtin "object.__setattr__")))
    (e232 : PySem.W.findIn K (.ref C225) "__getattribute__" = some (some (.builtin "BaseException.__getattribute__")))
    (e233 : PySem.W.findIn K (.ref C225) "__getattr__" = some none)
    (e234 : PySem.W.findIn K (.ref C225) "__init__" = some (some (.ref f227)))
    (e235 : PySem.W.typeIn K (.ref f227) = some (.type "function"))
    (e236 : PySem.W.keepIn K (.ref C225) = true)
    (e237 : PySem.W.subIn K (.ref C225) (.type "BaseException") = some true)
    (e238 : PySem.W.subIn K (.ref C225) (.type "ValueError") = some true)
    (e239 : PySem.W.typeIn K (.ref C225) = some (.type "type"))
    (e240 : PySem.W.hasDictIn K C225 = true)
    (e241 : PySem.W.ks_superIn K C225 C225 "__init__" = some (some (.builtin "ValueError.__init__")))
    (e242 : PySem.W.mroIn K C225 (.ref C225) = some true)
    (e243 : PySem.W.exmOne K (.ref C225) (.ref C225) = some true)
    (e244 : K.lookup f227 = some ⟨oc228, od228, .func (PySem.W.ksFn "__init__" "BadWord.__init__" (defArgs s_BadWordU_initU) (defBody s_BadWordU_initU) (defScope s_BadWordU_initU) .none .none doc228 pm228 an228 (.ref cda228) ct228 cc228), osl228⟩)
    (e245 : PySem.W.codeIn K (.ref cda228) "BadWord.__init__" = true)
    (e246 : K.lookup cda228 = some ⟨ccl228, cdd228, .fields vs228, ccs228⟩)
    (e247 : vs228[2]? = some (.str P.main.file tf228))
    (e248 : K.lookup cc228 = some ⟨cl228, cld228, .cell (some (.ref C225)), csl228⟩)
    (e249 : PySem.W.findIn K (.ref C225) "word" = some none)
    (a251 : PySem.W.nsIn K mainGlobals "BadMode" = some (some (.ref C250)))
    (e254 : K.lookup C250 = some (excClassObj nm253 qn253 C250 N253 bs253 bm253 true sn253 sub253 ab253 col253 dd253 k0253 k1253 k2253 k3253 k5253 "ValueError.__new__"))
    (e255 : PySem.HandSPX.refsVE bm253 = true)
    (e256 : PySem.W.findIn K (.ref C250) "__setattr__" = some (some (.builtin "object.__setattr__")))
    (e257 : PySem.W.findIn K (.ref C250) "__getattribute__" = some (some (.builtin "BaseException.__getattribute__")))
    (e258 : PySem.W.findIn K (.ref C250) "__getattr__" = some none)
    (e259 : PySem.W.findIn K (.ref C250) "__init__" = some (some (.ref f252)))
    (e260 : PySem.W.typeIn K (.ref f252) = some (.type "function"))
    (e261 : PySem.W.keepIn K (.ref C250) = true)
    (e262 : PySem.W.subIn K (.ref C250) (.type "BaseException") = some true)
    (e263 : PySem.W.subIn K (.ref C250) (.type "ValueError") = some true)
    (e264 : PySem.W.typeIn K (.ref C250) = some (.type "type"))
    (e265 : PySem.W.hasDictIn K C250 = true)
    (e266 : PySem.W.ks_superIn K C250 C250 "__init__" = some (some (.builtin "ValueError.__init__")))
    (e267 : PySem.W.mroIn K C250 (.ref C250) = some true)
    (e268 : PySem.W.exmOne K (.ref C250) (.ref C250) = some true)
    (e269 : K.lookup f252 = some ⟨oc253, od253, .func (PySem.W.ksFn "__init__" "BadMode.__init__" (defArgs s_BadModeU_initU) (defBody s_BadModeU_initU) (defScope s_BadModeU_initU) .none .none doc253 pm253 an253 (.ref cda253) ct253 cc253), osl253⟩)
    (e270 : PySem.W.codeIn K (.ref cda253) "BadMode.__init__" = true)
    (e271 : K.lookup cda253 = some ⟨ccl253, cdd253, .fields vs253, ccs253⟩)
    (e272 : vs253[2]? = some (.str P.main.file tf253))
    (e273 : K.lookup cc253 = some ⟨cl253, cld253, .cell (some (.ref C250)), csl253⟩)
    (e274 : PySem.W.findIn K (.ref C250) "mode" = some none)
    (z275 : PySem.W.exmOne K (.ref C47) (.ref C45) = some true)
    (z276 : PySem.W.exmOne K (.ref C73) (.ref C45) = some true)
    (z277 : PySem.W.exmOne K (.ref C99) (.ref C45) = some true)
    (z278 : PySem.W.exmOne K (.ref C125) (.ref C45) = some true)
    (z279 : PySem.W.exmOne K (.ref C150) (.ref C45) = some true)
    (z280 : PySem.W.exmOne K (.ref C174) (.ref C45) = some true)
    (z281 : PySem.W.exmOne K (.ref C200) (.ref C45) = some true)
    (z282 : PySem.W.exmOne K (.ref C225) (.ref C45) = some true)
    (z283 : PySem.W.exmOne K (.ref C250) (.ref C45) = some true)
    (a285 : PySem.W.nsIn K mainGlobals "Write" = some (some (.ref C284)))
    (q286 : PySem.W.plainGet K C284 Str.empty = true)
    (q287 : PySem.W.hasDictIn K C284 = true)
    (q288 : PySem.W.plainOver K C284 = true)
    (q289 : PySem.W.findIn K (.ref C284) "__setattr__" = some (some (.builtin "object.__setattr__")))
    (z290 : PySem.W.findIn K (.ref C284) "record" = some none)
    (z291 : PySem.W.findIn K (.ref C284) "value" = some none)
    (z292 : PySem.W.findIn K (.ref C284) "fate" = some none)
    (z293 : PySem.W.findIn K (.ref C284) "holder" = some none)
    (z294 : PySem.W.findIn K (.ref C284) "level" = some none)
    (q296 : PySem.W.makesIn K C284 = true)
    (q297 : PySem.W.findIn K (.ref C284) "__init__" = some (some (.ref f295)))
    (q298 : PySem.W.isFn K (.ref f295) = true)
    (q299 : PySem.W.keepIn K (.ref C284) = true)
    (l300 : K.lookup f295 = some ⟨oc300, od300, .func (PySem.W.fnOf "__init__" "Write.__init__" (defArgs s_WriteU_initU) (defBody s_WriteU_initU) (defScope s_WriteU_initU) .none kV300 dc300 pm300 an300 cd300 ct300), sl300⟩)
    (c300 : PySem.W.codeIn K cd300 "Write.__init__" = true)
    (k300 : PySem.W.keepIn K (.ref f295) = true)
    (a302 : PySem.W.nsIn K mainGlobals "Transaction" = some (some (.ref C301)))
    (q303 : PySem.W.plainGet K C301 Str.empty = true)
    (q304 : PySem.W.hasDictIn K C301 = true)
    (q305 : PySem.W.plainOver K C301 = true)
    (q306 : PySem.W.findIn K (.ref C301) "__setattr__" = some (some (.builtin "object.__setattr__")))
    (z307 : PySem.W.findIn K (.ref C301) "number" = some none)
    (z308 : PySem.W.findIn K (.ref C301) "reasons" = some none)
    (q310 : PySem.W.makesIn K C301 = true)
    (q311 : PySem.W.findIn K (.ref C301) "__init__" = some (some (.ref f309)))
    (q312 : PySem.W.isFn K (.ref f309) = true)
    (q313 : PySem.W.keepIn K (.ref C301) = true)
    (l314 : K.lookup f309 = some ⟨oc314, od314, .func (PySem.W.fnOf "__init__" "Transaction.__init__" (defArgs s_TransactionU_initU) (defBody s_TransactionU_initU) (defScope s_TransactionU_initU) .none kV314 dc314 pm314 an314 cd314 ct314), sl314⟩)
    (c314 : PySem.W.codeIn K cd314 "Transaction.__init__" = true)
    (k314 : PySem.W.keepIn K (.ref f309) = true)
    (a316 : PySem.W.nsIn K mainGlobals "Database" = some (some (.ref C315)))
    (q317 : PySem.W.plainGet K C315 Str.empty = true)
    (q318 : PySem.W.hasDictIn K C315 = true)
    (q319 : PySem.W.plainOver K C315 = true)
    (q320 : PySem.W.findIn K (.ref C315) "__setattr__" = some (some (.builtin "object.__setattr__")))
    (z321 : PySem.W.findIn K (.ref C315) "rows" = some none)
    (z322 : PySem.W.findIn K (.ref C315) "stack" = some none)
    (z323 : PySem.W.findIn K (.ref C315) "entered" = some none)
    (z324 : PySem.W.findIn K (.ref C315) "floor" = some none)
    (z325 : PySem.W.findIn K (.ref C315) "opened" = some none)
    (q327 : PySem.W.makesIn K C315 = true)
    (q328 : PySem.W.findIn K (.ref C315) "__init__" = some (some (.ref f326)))
    (q329 : PySem.W.isFn K (.ref f326) = true)
    (q330 : PySem.W.keepIn K (.ref C315) = true)
    (l331 : K.lookup f326 = some ⟨oc331, od331, .func (PySem.W.fnOf "__init__" "Database.__init__" (defArgs s_DatabaseU_initU) (defBody s_DatabaseU_initU) (defScope s_DatabaseU_initU) .none kV331 dc331 pm331 an331 cd331 ct331), sl331⟩)
    (c331 : PySem.W.codeIn K cd331 "Database.__init__" = true)
    (k331 : PySem.W.keepIn K (.ref f326) = true)
    (q333 : PySem.W.findIn K (.ref C315) "begin" = some (some (.ref f332)))
    (q334 : PySem.W.isFn K (.ref f332) = true)
    (l335 : K.lookup f332 = some ⟨oc335, od335, .func (PySem.W.fnOf "begin" "Database.begin" (defArgs s_Database_begin) (defBody s_Database_begin) (defScope s_Database_begin) .none kV335 dc335 pm335 an335 cd335 ct335), sl335⟩)
    (c335 : PySem.W.codeIn K cd335 "Database.begin" = true)
    (k335 : PySem.W.keepIn K (.ref f332) = true)
    (q337 : PySem.W.findIn K (.ref C315) "enter_alone" = some (some (.ref f336)))
    (q338 : PySem.W.isFn K (.ref f336) = true)
    (l339 : K.lookup f336 = some ⟨oc339, od339, .func (PySem.W.fnOf "enter_alone" "Database.enter_alone" (defArgs s_Database_enter_alone) (defBody s_Database_enter_alone) (defScope s_Database_enter_alone) .none kV339 dc339 pm339 an339 cd339 ct339), sl339⟩)
    (c339 : PySem.W.codeIn K cd339 "Database.enter_alone" = true)
    (k339 : PySem.W.keepIn K (.ref f336) = true)
    (q341 : PySem.W.findIn K (.ref C315) "enter_inside" = some (some (.ref f340)))
    (q342 : PySem.W.isFn K (.ref f340) = true)
    (l343 : K.lookup f340 = some ⟨oc343, od343, .func (PySem.W.fnOf "enter_inside" "Database.enter_inside" (defArgs s_Database_enter_inside) (defBody s_Database_enter_inside) (defScope s_Database_enter_inside) .none kV343 dc343 pm343 an343 cd343 ct343), sl343⟩)
    (c343 : PySem.W.codeIn K cd343 "Database.enter_inside" = true)
    (k343 : PySem.W.keepIn K (.ref f340) = true)
    (q345 : PySem.W.findIn K (.ref C315) "enter" = some (some (.ref f344)))
    (q346 : PySem.W.isFn K (.ref f344) = true)
    (l347 : K.lookup f344 = some ⟨oc347, od347, .func (PySem.W.fnOf "enter" "Database.enter" (defArgs s_Database_enter) (defBody s_Database_enter) (defScope s_Database_enter) .none kV347 dc347 pm347 an347 cd347 ct347), sl347⟩)
    (c347 : PySem.W.codeIn K cd347 "Database.enter" = true)
    (k347 : PySem.W.keepIn K (.ref f344) = true)
    (q349 : PySem.W.findIn K (.ref C315) "doom" = some (some (.ref f348)))
    (q350 : PySem.W.isFn K (.ref f348) = true)
    (l351 : K.lookup f348 = some ⟨oc351, od351, .func (PySem.W.fnOf "doom" "Database.doom" (defArgs s_Database_doom) (defBody s_Database_doom) (defScope s_Database_doom) (.ref T352) kV351 dc351 pm351 an351 cd351 ct351), sl351⟩)
    (c351 : PySem.W.codeIn K cd351 "Database.doom" = true)
    (k351 : PySem.W.keepIn K (.ref f348) = true)
    (lT358 : K.lookup T352 = some ⟨oc353, od354, .seq #[.str "doom" t357] on355, os356⟩)
    (q360 : PySem.W.findIn K (.ref C315) "end_level" = some (some (.ref f359)))
    (q361 : PySem.W.isFn K (.ref f359) = true)
    (l362 : K.lookup f359 = some ⟨oc362, od362, .func (PySem.W.fnOf "end_level" "Database.end_level" (defArgs s_Database_end_level) (defBody s_Database_end_level) (defScope s_Database_end_level) .none kV362 dc362 pm362 an362 cd362 ct362), sl362⟩)
    (c362 : PySem.W.codeIn K cd362 "Database.end_level" = true)
    (k362 : PySem.W.keepIn K (.ref f359) = true)
    (q364 : PySem.W.findIn K (.ref C315) "end_transaction" = some (some (.ref f363)))
    (q365 : PySem.W.isFn K (.ref f363) = true)
    (l366 : K.lookup f363 = some ⟨oc366, od366, .func (PySem.W.fnOf "end_transaction" "Database.end_transaction" (defArgs s_Database_end_transaction) (defBody s_Database_end_transaction) (defScope s_Database_end_transaction) .none kV366 dc366 pm366 an366 cd366 ct366), sl366⟩)
    (c366 : PySem.W.codeIn K cd366 "Database.end_transaction" = true)
    (k366 : PySem.W.keepIn K (.ref f363) = true)
    (q368 : PySem.W.findIn K (.ref C315) "leave" = some (some (.ref f367)))
    (q369 : PySem.W.isFn K (.ref f367) = true)
    (l370 : K.lookup f367 = some ⟨oc370, od370, .func (PySem.W.fnOf "leave" "Database.leave" (defArgs s_Database_leave) (defBody s_Database_leave) (defScope s_Database_leave) (.ref T371) (.ref D378) dc370 pm370 an370 cd370 ct370), sl370⟩)
    (c370 : PySem.W.codeIn K cd370 "Database.leave" = true)
    (k370 : PySem.W.keepIn K (.ref f367) = true)
    (lT377 : K.lookup T371 = some ⟨oc372, od373, .seq #[.none] on374, os375⟩)
    (z380 : PySem.W.nsIn K D378 "commits" = some (some (.bool true)))
    (q382 : PySem.W.findIn K (.ref C315) "held_by" = some (some (.ref f381)))
    (q383 : PySem.W.isFn K (.ref f381) = true)
    (l384 : K.lookup f381 = some ⟨oc384, od384, .func (PySem.W.fnOf "held_by" "Database.held_by" (defArgs s_Database_held_by) (defBody s_Database_held_by) (defScope s_Database_held_by) .none kV384 dc384 pm384 an384 cd384 ct384), sl384⟩)
    (c384 : PySem.W.codeIn K cd384 "Database.held_by" = true)
    (k384 : PySem.W.keepIn K (.ref f381) = true)
    (q386 : PySem.W.findIn K (.ref C315) "held_records" = some (some (.ref f385)))
    (q387 : PySem.W.isFn K (.ref f385) = true)
    (l388 : K.lookup f385 = some ⟨oc388, od388, .func (PySem.W.fnOf "held_records" "Database.held_records" (defArgs s_Database_held_records) (defBody s_Database_held_records) (defScope s_Database_held_records) .none kV388 dc388 pm388 an388 cd388 ct388), sl388⟩)
    (c388 : PySem.W.codeIn K cd388 "Database.held_records" = true)
    (k388 : PySem.W.keepIn K (.ref f385) = true)
    (q390 : PySem.W.findIn K (.ref C315) "outer_records" = some (some (.ref f389)))
    (q391 : PySem.W.isFn K (.ref f389) = true)
    (l392 : K.lookup f389 = some ⟨oc392, od392, .func (PySem.W.fnOf "outer_records" "Database.outer_records" (defArgs s_Database_outer_records) (defBody s_Database_outer_records) (defScope s_Database_outer_records) .none kV392 dc392 pm392 an392 cd392 ct392), sl392⟩)
    (c392 : PySem.W.codeIn K cd392 "Database.outer_records" = true)
    (k392 : PySem.W.keepIn K (.ref f389) = true)
    (q394 : PySem.W.findIn K (.ref C315) "would_wait" = some (some (.ref f393)))
    (q395 : PySem.W.isFn K (.ref f393) = true)
    (l396 : K.lookup f393 = some ⟨oc396, od396, .func (PySem.W.fnOf "would_wait" "Database.would_wait" (defArgs s_Database_would_wait) (defBody s_Database_would_wait) (defScope s_Database_would_wait) .none kV396 dc396 pm396 an396 cd396 ct396), sl396⟩)
    (c396 : PySem.W.codeIn K cd396 "Database.would_wait" = true)
    (k396 : PySem.W.keepIn K (.ref f393) = true)
    (q398 : PySem.W.findIn K (.ref C315) "write" = some (some (.ref f397)))
    (q399 : PySem.W.isFn K (.ref f397) = true)
    (l400 : K.lookup f397 = some ⟨oc400, od400, .func (PySem.W.fnOf "write" "Database.write" (defArgs s_Database_write) (defBody s_Database_write) (defScope s_Database_write) .none kV400 dc400 pm400 an400 cd400 ct400), sl400⟩)
    (c400 : PySem.W.codeIn K cd400 "Database.write" = true)
    (k400 : PySem.W.keepIn K (.ref f397) = true)
    (q402 : PySem.W.findIn K (.ref C315) "__setitem__" = some (some (.ref f401)))
    (q403 : PySem.W.isFn K (.ref f401) = true)
    (l404 : K.lookup f401 = some ⟨oc404, od404, .func (PySem.W.fnOf "__setitem__" "Database.__setitem__" (defArgs s_DatabaseU_setitemU) (defBody s_DatabaseU_setitemU) (defScope s_DatabaseU_setitemU) .none kV404 dc404 pm404 an404 cd404 ct404), sl404⟩)
    (c404 : PySem.W.codeIn K cd404 "Database.__setitem__" = true)
    (k404 : PySem.W.keepIn K (.ref f401) = true)
    (q406 : PySem.W.findIn K (.ref C315) "kept_values" = some (some (.ref f405)))
    (q407 : PySem.W.isFn K (.ref f405) = true)
    (l408 : K.lookup f405 = some ⟨oc408, od408, .func (PySem.W.fnOf "kept_values" "Database.kept_values" (defArgs s_Database_kept_values) (defBody s_Database_kept_values) (defScope s_Database_kept_values) .none kV408 dc408 pm408 an408 cd408 ct408), sl408⟩)
    (c408 : PySem.W.codeIn K cd408 "Database.kept_values" = true)
    (k408 : PySem.W.keepIn K (.ref f405) = true)
    (q410 : PySem.W.findIn K (.ref C315) "fates" = some (some (.ref f409)))
    (q411 : PySem.W.isFn K (.ref f409) = true)
    (l412 : K.lookup f409 = some ⟨oc412, od412, .func (PySem.W.fnOf "fates" "Database.fates" (defArgs s_Database_fates) (defBody s_Database_fates) (defScope s_Database_fates) .none kV412 dc412 pm412 an412 cd412 ct412), sl412⟩)
    (c412 : PySem.W.codeIn K cd412 "Database.fates" = true)
    (k412 : PySem.W.keepIn K (.ref f409) = true)
    (q416 : PySem.W.findIn K (.ref C315) "is_open" = some (some (.ref p414)))
    (q417 : PySem.W.specialIn K (.ref p414) "__get__" = some (some (.builtin "property.__get__")))
    (q418 : PySem.W.takesIn K (.ref p414) = some true)
    (q419 : PySem.W.recIn K p414 "property" = some (.ref f413 :: rs415))
    (l420 : K.lookup f413 = some ⟨oc420, od420, .func (PySem.W.fnOf "is_open" "Database.is_open" (defArgs s_Database_is_open) (defBody s_Database_is_open) (defScope s_Database_is_open) .none kV420 dc420 pm420 an420 cd420 ct420), sl420⟩)
    (c420 : PySem.W.codeIn K cd420 "Database.is_open" = true)
    (k420 : PySem.W.keepIn K (.ref f413) = true)
    (q424 : PySem.W.findIn K (.ref C315) "is_doomed" = some (some (.ref p422)))
    (q425 : PySem.W.specialIn K (.ref p422) "__get__" = some (some (.builtin "property.__get__")))
    (q426 : PySem.W.takesIn K (.ref p422) = some true)
    (q427 : PySem.W.recIn K p422 "property" = some (.ref f421 :: rs423))
    (l428 : K.lookup f421 = some ⟨oc428, od428, .func (PySem.W.fnOf "is_doomed" "Database.is_doomed" (defArgs s_Database_is_doomed) (defBody s_Database_is_doomed) (defScope s_Database_is_doomed) .none kV428 dc428 pm428 an428 cd428 ct428), sl428⟩)
    (c428 : PySem.W.codeIn K cd428 "Database.is_doomed" = true)
    (k428 : PySem.W.keepIn K (.ref f421) = true)
    (q432 : PySem.W.findIn K (.ref C315) "reason" = some (some (.ref p430)))
    (q433 : PySem.W.specialIn K (.ref p430) "__get__" = some (some (.builtin "property.__get__")))
    (q434 : PySem.W.takesIn K (.ref p430) = some true)
    (q435 : PySem.W.recIn K p430 "property" = some (.ref f429 :: rs431))
    (l436 : K.lookup f429 = some ⟨oc436, od436, .func (PySem.W.fnOf "reason" "Database.reason" (defArgs s_Database_reason) (defBody s_Database_reason) (defScope s_Database_reason) .none kV436 dc436 pm436 an436 cd436 ct436), sl436⟩)
    (c436 : PySem.W.codeIn K cd436 "Database.reason" = true)
    (k436 : PySem.W.keepIn K (.ref f429) = true)
    (q440 : PySem.W.findIn K (.ref C315) "levels" = some (some (.ref p438)))
    (q441 : PySem.W.specialIn K (.ref p438) "__get__" = some (some (.builtin "property.__get__")))
    (q442 : PySem.W.takesIn K (.ref p438) = some true)
    (q443 : PySem.W.recIn K p438 "property" = some (.ref f437 :: rs439))
    (l444 : K.lookup f437 = some ⟨oc444, od444, .func (PySem.W.fnOf "levels" "Database.levels" (defArgs s_Database_levels) (defBody s_Database_levels) (defScope s_Database_levels) .none kV444 dc444 pm444 an444 cd444 ct444), sl444⟩)
    (c444 : PySem.W.codeIn K cd444 "Database.levels" = true)
    (k444 : PySem.W.keepIn K (.ref f437) = true)
    (q448 : PySem.W.findIn K (.ref C315) "depth" = some (some (.ref p446)))
    (q449 : PySem.W.specialIn K (.ref p446) "__get__" = some (some (.builtin "property.__get__")))
    (q450 : PySem.W.takesIn K (.ref p446) = some true)
    (q451 : PySem.W.recIn K p446 "property" = some (.ref f445 :: rs447))
    (l452 : K.lookup f445 = some ⟨oc452, od452, .func (PySem.W.fnOf "depth" "Database.depth" (defArgs s_Database_depth) (defBody s_Database_depth) (defScope s_Database_depth) .none kV452 dc452 pm452 an452 cd452 ct452), sl452⟩)
    (c452 : PySem.W.codeIn K cd452 "Database.depth" = true)
    (k452 : PySem.W.keepIn K (.ref f445) = true)
    (z453 : PySem.W.noSeq K C315 = true)
    (a455 : PySem.W.nsIn K mainGlobals "_law_pool" = some (some (.ref f454)))
    (l456 : K.lookup f454 = some ⟨oc456, od456, .func (PySem.W.fnOf "_law_pool" "_law_pool" (defArgs s_law_pool) (defBody s_law_pool) (defScope s_law_pool) .none kV456 dc456 pm456 an456 cd456 ct456), sl456⟩)
    (c456 : PySem.W.codeIn K cd456 "_law_pool" = true)
    (k456 : PySem.W.keepIn K (.ref f454) = true)
    (a458 : PySem.W.nsIn K mainGlobals "_law_draw" = some (some (.ref f457)))
    (l459 : K.lookup f457 = some ⟨oc459, od459, .func (PySem.W.fnOf "_law_draw" "_law_draw" (defArgs s_law_draw) (defBody s_law_draw) (defScope s_law_draw) .none kV459 dc459 pm459 an459 cd459 ct459), sl459⟩)
    (c459 : PySem.W.codeIn K cd459 "_law_draw" = true)
    (k459 : PySem.W.keepIn K (.ref f457) = true)
    (a461 : PySem.W.nsIn K mainGlobals "_law_word" = some (some (.ref f460)))
    (l462 : K.lookup f460 = some ⟨oc462, od462, .func (PySem.W.fnOf "_law_word" "_law_word" (defArgs s_law_word) (defBody s_law_word) (defScope s_law_word) .none kV462 dc462 pm462 an462 cd462 ct462), sl462⟩)
    (c462 : PySem.W.codeIn K cd462 "_law_word" = true)
    (k462 : PySem.W.keepIn K (.ref f460) = true)
    (a464 : PySem.W.nsIn K mainGlobals "_law_seen" = some (some (.ref f463)))
    (l465 : K.lookup f463 = some ⟨oc465, od465, .func (PySem.W.fnOf "_law_seen" "_law_seen" (defArgs s_law_seen) (defBody s_law_seen) (defScope s_law_seen) .none kV465 dc465 pm465 an465 cd465 ct465), sl465⟩)
    (c465 : PySem.W.codeIn K cd465 "_law_seen" = true)
    (k465 : PySem.W.keepIn K (.ref f463) = true)
    (a467 : PySem.W.nsIn K mainGlobals "_law_try" = some (some (.ref f466)))
    (l468 : K.lookup f466 = some ⟨oc468, od468, .func (PySem.W.fnOf "_law_try" "_law_try" (defArgs s_law_try) (defBody s_law_try) (defScope s_law_try) .none kV468 dc468 pm468 an468 cd468 ct468), sl468⟩)
    (c468 : PySem.W.codeIn K cd468 "_law_try" = true)
    (k468 : PySem.W.keepIn K (.ref f466) = true)
    (a470 : PySem.W.nsIn K mainGlobals "_law_inside" = some (some (.ref f469)))
    (l471 : K.lookup f469 = some ⟨oc471, od471, .func (PySem.W.fnOf "_law_inside" "_law_inside" (defArgs s_law_inside) (defBody s_law_inside) (defScope s_law_inside) .none kV471 dc471 pm471 an471 cd471 ct471), sl471⟩)
    (c471 : PySem.W.codeIn K cd471 "_law_inside" = true)
    (k471 : PySem.W.keepIn K (.ref f469) = true)
    (l472 : K.lookup fa = some ⟨oc472, od472, .func (PySem.W.fnOf "law" "law" (defArgs s_law) (defBody s_law) (defScope s_law) .none kV472 dc472 pm472 an472 cd472 ct472), sl472⟩)
    (c472 : PySem.W.codeIn K cd472 "law" = true)
    (k472 : PySem.W.keepIn K (.ref fa) = true)
    (z473 : PySem.W.nsIn K mainGlobals "isinstance" = some none)
    (z474 : PySem.W.nsIn K mainGlobals "str" = some none)
    (z475 : PySem.W.nsIn K mainGlobals "len" = some none)
    (z476 : PySem.W.nsIn K mainGlobals "super" = some none)
    (z477 : PySem.W.nsIn K mainGlobals "sorted" = some none)
    (z478 : PySem.W.nsIn K mainGlobals "abs" = some none)
    (z479 : PySem.W.nsIn K mainGlobals "int" = some none)
    (z480 : PySem.W.nsIn K mainGlobals "range" = some none)
    (z481 : PySem.W.nsIn K mainGlobals "list" = some none)
    (z482 : PySem.W.nsIn K mainGlobals "repr" = some none)
    (z483 : PySem.W.nsIn K mainGlobals "max" = some none)
    (z484 : PySem.W.nsIn K mainGlobals "min" = some none)
    : ∃ fd : FuncData, (∀ (s : Shared) (v : Value), BindsTo s fd ⟨[v], []⟩ [("_law_script", v)]) ∧ ∀ base : Heap, K.In base → base.Ns mainGlobals mg → FnG P w K mg base CX0 9 fa fd ["_law_script"] (spLaw K) := by
  have F40 := fun_mk (st := s_Mode_is_mode) l40 c40 k40
  have b40 := F40.binds (ps := ["thing"]) fun _ _ _ _ _ _ us hl => match us, hl with | [_], _ => rfl
  have F43 := fun_mk (st := s_is_word) l43 c43 k43
  have b43 := F43.binds (ps := ["thing"]) fun _ _ _ _ _ _ us hl => match us, hl with | [_], _ => rfl
  have F300 := fun_mk (st := s_WriteU_initU) l300 c300 k300
  have b300 := F300.binds (ps := ["self", "record", "value", "fate", "holder", "level"]) fun _ _ _ _ _ _ us hl => match us, hl with | [_, _, _, _, _, _], _ => rfl
  have F314 := fun_mk (st := s_TransactionU_initU) l314 c314 k314
  have b314 := F314.binds (ps := ["self", "number"]) fun _ _ _ _ _ _ us hl => match us, hl with | [_, _], _ => rfl
  have F331 := fun_mk (st := s_DatabaseU_initU) l331 c331 k331
  have b331 := F331.binds (ps := ["self"]) fun _ _ _ _ _ _ us hl => match us, hl with | [_], _ => rfl
  have F335 := fun_mk (st := s_Database_begin) l335 c335 k335
  have b335 := F335.binds (ps := ["self"]) fun _ _ _ _ _ _ us hl => match us, hl with | [_], _ => rfl
  have F339 := fun_mk (st := s_Database_enter_alone) l339 c339 k339
  have b339 := F339.binds (ps := ["self", "mode"]) fun _ _ _ _ _ _ us hl => match us, hl with | [_, _], _ => rfl
  have F343 := fun_mk (st := s_Database_enter_inside) l343 c343 k343
  have b343 := F343.binds (ps := ["self", "mode", "present"]) fun _ _ _ _ _ _ us hl => match us, hl with | [_, _, _], _ => rfl
  have F347 := fun_mk (st := s_Database_enter) l347 c347 k347
  have b347 := F347.binds (ps := ["self", "mode"]) fun _ _ _ _ _ _ us hl => match us, hl with | [_, _], _ => rfl
  have F351 : FunD K "doom" "Database.doom" (defArgs s_Database_doom) (defBody s_Database_doom) (defScope s_Database_doom) [.str "doom"] []  f348 (PySem.W.fnOf "doom" "Database.doom" (defArgs s_Database_doom) (defBody s_Database_doom) (defScope s_Database_doom) (.ref T352) kV351 dc351 pm351 an351 cd351 ct351) := ⟨⟨_, _, _, _, _, _, _, _, _, _, rfl, l351, c351, .inr ⟨by decide, _, _, _, _, rfl, lT358, rfl, (.cons ⟨_, rfl⟩ .nil)⟩, .inl rfl⟩, k351⟩
  have F362 := fun_mk (st := s_Database_end_level) l362 c362 k362
  have b362 := F362.binds (ps := ["self", "error"]) fun _ _ _ _ _ _ us hl => match us, hl with | [_, _], _ => rfl
  have F366 := fun_mk (st := s_Database_end_transaction) l366 c366 k366
  have b366 := F366.binds (ps := ["self", "error", "commits"]) fun _ _ _ _ _ _ us hl => match us, hl with | [_, _, _], _ => rfl
  have F370 : FunD K "leave" "Database.leave" (defArgs s_Database_leave) (defBody s_Database_leave) (defScope s_Database_leave) [.non] [("commits", .bl true)]  f367 (PySem.W.fnOf "leave" "Database.leave" (defArgs s_Database_leave) (defBody s_Database_leave) (defScope s_Database_leave) (.ref T371) (.ref D378) dc370 pm370 an370 cd370 ct370) := ⟨⟨_, _, _, _, _, _, _, _, _, _, rfl, l370, c370, .inr ⟨by decide, _, _, _, _, rfl, lT377, rfl, (.cons rfl .nil)⟩, .inr ⟨_, rfl, fun q hq => by
      rcases List.mem_cons.mp hq with rfl | hq
      · exact ⟨_, z380, rfl⟩
      · exact absurd hq (by simp)⟩⟩, k370⟩
  have F384 := fun_mk (st := s_Database_held_by) l384 c384 k384
  have b384 := F384.binds (ps := ["self", "numbers"]) fun _ _ _ _ _ _ us hl => match us, hl with | [_, _], _ => rfl
  have F388 := fun_mk (st := s_Database_held_records) l388 c388 k388
  have b388 := F388.binds (ps := ["self"]) fun _ _ _ _ _ _ us hl => match us, hl with | [_], _ => rfl
  have F392 := fun_mk (st := s_Database_outer_records) l392 c392 k392
  have b392 := F392.binds (ps := ["self"]) fun _ _ _ _ _ _ us hl => match us, hl with | [_], _ => rfl
  have F396 := fun_mk (st := s_Database_would_wait) l396 c396 k396
  have b396 := F396.binds (ps := ["self", "record"]) fun _ _ _ _ _ _ us hl => match us, hl with | [_, _], _ => rfl
  have F400 := fun_mk (st := s_Database_write) l400 c400 k400
  have b400 := F400.binds (ps := ["self", "record", "value"]) fun _ _ _ _ _ _ us hl => match us, hl with | [_, _, _], _ => rfl
  have F404 := fun_mk (st := s_DatabaseU_setitemU) l404 c404 k404
  have b404 := F404.binds (ps := ["self", "record", "value"]) fun _ _ _ _ _ _ us hl => match us, hl with | [_, _, _], _ => rfl
  have F408 := fun_mk (st := s_Database_kept_values) l408 c408 k408
  have b408 := F408.binds (ps := ["self"]) fun _ _ _ _ _ _ us hl => match us, hl with | [_], _ => rfl
  have F412 := fun_mk (st := s_Database_fates) l412 c412 k412
  have b412 := F412.binds (ps := ["self"]) fun _ _ _ _ _ _ us hl => match us, hl with | [_], _ => rfl
  have F420 := fun_mk (st := s_Database_is_open) l420 c420 k420
  have b420 := F420.binds (ps := ["self"]) fun _ _ _ _ _ _ us hl => match us, hl with | [_], _ => rfl
  have F428 := fun_mk (st := s_Database_is_doomed) l428 c428 k428
  have b428 := F428.binds (ps := ["self"]) fun _ _ _ _ _ _ us hl => match us, hl with | [_], _ => rfl
  have F436 := fun_mk (st := s_Database_reason) l436 c436 k436
  have b436 := F436.binds (ps := ["self"]) fun _ _ _ _ _ _ us hl => match us, hl with | [_], _ => rfl
  have F444 := fun_mk (st := s_Database_levels) l444 c444 k444
  have b444 := F444.binds (ps := ["self"]) fun _ _ _ _ _ _ us hl => match us, hl with | [_], _ => rfl
  have F452 := fun_mk (st := s_Database_depth) l452 c452 k452
  have b452 := F452.binds (ps := ["self"]) fun _ _ _ _ _ _ us hl => match us, hl with | [_], _ => rfl
  have F456 := fun_mk (st := s_law_pool) l456 c456 k456
  have b456 := F456.binds (ps := ["_law_script", "_law_at"]) fun _ _ _ _ _ _ us hl => match us, hl with | [_, _], _ => rfl
  have F459 := fun_mk (st := s_law_draw) l459 c459 k459
  have b459 := F459.binds (ps := ["_law_pool_here", "_law_many"]) fun _ _ _ _ _ _ us hl => match us, hl with | [_, _], _ => rfl
  have F462 := fun_mk (st := s_law_word) l462 c462 k462
  have b462 := F462.binds (ps := ["_law_pool_here"]) fun _ _ _ _ _ _ us hl => match us, hl with | [_], _ => rfl
  have F465 := fun_mk (st := s_law_seen) l465 c465 k465
  have b465 := F465.binds (ps := ["_law_db"]) fun _ _ _ _ _ _ us hl => match us, hl with | [_], _ => rfl
  have F468 := fun_mk (st := s_law_try) l468 c468 k468
  have b468 := F468.binds (ps := ["_law_db", "_law_deed", "_law_word_here", "_law_value"]) fun _ _ _ _ _ _ us hl => match us, hl with | [_, _, _, _], _ => rfl
  have F471 := fun_mk (st := s_law_inside) l471 c471 k471
  have b471 := F471.binds (ps := ["_law_pool_here", "_law_db"]) fun _ _ _ _ _ _ us hl => match us, hl with | [_, _], _ => rfl
  have F472 := fun_mk (st := s_law) l472 c472 k472
  have b472 := F472.binds (ps := ["_law_script"]) fun _ _ _ _ _ _ us hl => match us, hl with | [_], _ => rfl
  have T : Txt K mg ⟨C1, p22, f35, p36, f41, C45, C47, f49, C73, f75, C99, f101, C125, f127, C150, f152, C174, f176, C200, f202, C225, f227, C250, f252, C284, f295, C301, f309, C315, f326, f332, f336, f340, f344, f348, f359, f363, f367, f381, f385, f389, f393, f397, f401, f405, f409, f413, p414, f421, p422, f429, p430, f437, p438, f445, p446, f454, f457, f460, f463, f466, f469, fa⟩ ⟨PySem.W.fnOf "is_mode" "Mode.is_mode" (defArgs s_Mode_is_mode) (defBody s_Mode_is_mode) (defScope s_Mode_is_mode) .none kV40 dc40 pm40 an40 cd40 ct40, PySem.W.fnOf "is_word" "is_word" (defArgs s_is_word) (defBody s_is_word) (defScope s_is_word) .none kV43 dc43 pm43 an43 cd43 ct43, PySem.W.fnOf "__init__" "Write.__init__" (defArgs s_WriteU_initU) (defBody s_WriteU_initU) (defScope s_WriteU_initU) .none kV300 dc300 pm300 an300 cd300 ct300, PySem.W.fnOf "__init__" "Transaction.__init__" (defArgs s_TransactionU_initU) (defBody s_TransactionU_initU) (defScope s_TransactionU_initU) .none kV314 dc314 pm314 an314 cd314 ct314, PySem.W.fnOf "__init__" "Database.__init__" (defArgs s_DatabaseU_initU) (defBody s_DatabaseU_initU) (defScope s_DatabaseU_initU) .none kV331 dc331 pm331 an331 cd331 ct331, PySem.W.fnOf "begin" "Database.begin" (defArgs s_Database_begin) (defBody s_Database_begin) (defScope s_Database_begin) .none kV335 dc335 pm335 an335 cd335 ct335, PySem.W.fnOf "enter_alone" "Database.enter_alone" (defArgs s_Database_enter_alone) (defBody s_Database_enter_alone) (defScope s_Database_enter_alone) .none kV339 dc339 pm339 an339 cd339 ct339, PySem.W.fnOf "enter_inside" "Database.enter_inside" (defArgs s_Database_enter_inside) (defBody s_Database_enter_inside) (defScope s_Database_enter_inside) .none kV343 dc343 pm343 an343 cd343 ct343, PySem.W.fnOf "enter" "Database.enter" (defArgs s_Database_enter) (defBody s_Database_enter) (defScope s_Database_enter) .none kV347 dc347 pm347 an347 cd347 ct347, PySem.W.fnOf "doom" "Database.doom" (defArgs s_Database_doom) (defBody s_Database_doom) (defScope s_Database_doom) (.ref T352) kV351 dc351 pm351 an351 cd351 ct351, PySem.W.fnOf "end_level" "Database.end_level" (defArgs s_Database_end_level) (defBody s_Database_end_level) (defScope s_Database_end_level) .none kV362 dc362 pm362 an362 cd362 ct362, PySem.W.fnOf "end_transaction" "Database.end_transaction" (defArgs s_Database_end_transaction) (defBody s_Database_end_transaction) (defScope s_Database_end_transaction) .none kV366 dc366 pm366 an366 cd366 ct366, PySem.W.fnOf "leave" "Database.leave" (defArgs s_Database_leave) (defBody s_Database_leave) (defScope s_Database_leave) (.ref T371) (.ref D378) dc370 pm370 an370 cd370 ct370, PySem.W.fnOf "held_by" "Database.held_by" (defArgs s_Database_held_by) (defBody s_Database_held_by) (defScope s_Database_held_by) .none kV384 dc384 pm384 an384 cd384 ct384, PySem.W.fnOf "held_records" "Database.held_records" (defArgs s_Database_held_records) (defBody s_Database_held_records) (defScope s_Database_held_records) .none kV388 dc388 pm388 an388 cd388 ct388, PySem.W.fnOf "outer_records" "Database.outer_records" (defArgs s_Database_outer_records) (defBody s_Database_outer_records) (defScope s_Database_outer_records) .none kV392 dc392 pm392 an392 cd392 ct392, PySem.W.fnOf "would_wait" "Database.would_wait" (defArgs s_Database_would_wait) (defBody s_Database_would_wait) (defScope s_Database_would_wait) .none kV396 dc396 pm396 an396 cd396 ct396, PySem.W.fnOf "write" "Database.write" (defArgs s_Database_write) (defBody s_Database_write) (defScope s_Database_write) .none kV400 dc400 pm400 an400 cd400 ct400, PySem.W.fnOf "__setitem__" "Database.__setitem__" (defArgs s_DatabaseU_setitemU) (defBody s_DatabaseU_setitemU) (defScope s_DatabaseU_setitemU) .none kV404 dc404 pm404 an404 cd404 ct404, PySem.W.fnOf "kept_values" "Database.kept_values" (defArgs s_Database_kept_values) (defBody s_Database_kept_values) (defScope s_Database_kept_values) .none kV408 dc408 pm408 an408 cd408 ct408, PySem.W.fnOf "fates" "Database.fates" (defArgs s_Database_fates) (defBody s_Database_fates) (defScope s_Database_fates) .none kV412 dc412 pm412 an412 cd412 ct412, PySem.W.fnOf "is_open" "Database.is_open" (defArgs s_Database_is_open) (defBody s_Database_is_open) (defScope s_Database_is_open) .none kV420 dc420 pm420 an420 cd420 ct420, PySem.W.fnOf "is_doomed" "Database.is_doomed" (defArgs s_Database_is_doomed) (defBody s_Database_is_doomed) (defScope s_Database_is_doomed) .none kV428 dc428 pm428 an428 cd428 ct428, PySem.W.fnOf "reason" "Database.reason" (defArgs s_Database_reason) (defBody s_Database_reason) (defScope s_Database_reason) .none kV436 dc436 pm436 an436 cd436 ct436, PySem.W.fnOf "levels" "Database.levels" (defArgs s_Database_levels) (defBody s_Database_levels) (defScope s_Database_levels) .none kV444 dc444 pm444 an444 cd444 ct444, PySem.W.fnOf "depth" "Database.depth" (defArgs s_Database_depth) (defBody s_Database_depth) (defScope s_Database_depth) .none kV452 dc452 pm452 an452 cd452 ct452, PySem.W.fnOf "_law_pool" "_law_pool" (defArgs s_law_pool) (defBody s_law_pool) (defScope s_law_pool) .none kV456 dc456 pm456 an456 cd456 ct456, PySem.W.fnOf "_law_draw" "_law_draw" (defArgs s_law_draw) (defBody s_law_draw) (defScope s_law_draw) .none kV459 dc459 pm459 an459 cd459 ct459, PySem.W.fnOf "_law_word" "_law_word" (defArgs s_law_word) (defBody s_law_word) (defScope s_law_word) .none kV462 dc462 pm462 an462 cd462 ct462, PySem.W.fnOf "_law_seen" "_law_seen" (defArgs s_law_seen) (defBody s_law_seen) (defScope s_law_seen) .none kV465 dc465 pm465 an465 cd465 ct465, PySem.W.fnOf "_law_try" "_law_try" (defArgs s_law_try) (defBody s_law_try) (defScope s_law_try) .none kV468 dc468 pm468 an468 cd468 ct468, PySem.W.fnOf "_law_inside" "_law_inside" (defArgs s_law_inside) (defBody s_law_inside) (defScope s_law_inside) .none kV471 dc471 pm471 an471 cd471 ct471, PySem.W.fnOf "law" "law" (defArgs s_law) (defBody s_law) (defScope s_law) .none kV472 dc472 pm472 an472 cd472 ct472⟩ := ⟨PySem.W.mg_of X G a2, ⟨r3, s4⟩, ⟨_, z5, ⟨_, rfl⟩⟩, ⟨_, z7, ⟨_, rfl⟩⟩, ⟨_, z9, ⟨_, rfl⟩⟩, ⟨_, z11, ⟨_, rfl⟩⟩, ⟨_, z13, ⟨_, rfl⟩⟩, ⟨_, z15, ⟨_, rfl⟩⟩, ⟨_, z17, ⟨_, rfl⟩⟩, ⟨_, z19, ⟨_, rfl⟩⟩, ⟨_, z21, rfl⟩, fun H => .inr ⟨_, _, _, l23, rfl, rfl, sz_le rfl, (.cons ⟨_, rfl⟩ (.cons ⟨_, rfl⟩ (.cons ⟨_, rfl⟩ (.cons ⟨_, rfl⟩ (.cons ⟨_, rfl⟩ (.cons ⟨_, rfl⟩ (.cons ⟨_, rfl⟩ (.cons ⟨_, rfl⟩ .nil))))))))⟩, ⟨_, l23, rfl⟩, F40, b40, ⟨z37, _, r38⟩, F43, b43, PySem.W.mg_of X G a42, PySem.W.mg_of X G a46, PySem.W.mg_of X G a48, ec_Missing e51 e52 e53 e54 e55 e56 e57 e58 e59 e60 e61 e62 e63 e64 e65 z44 e66 e67 e68 e69 e70 e71 e72, PySem.W.mg_of X G a74, ec_Present e77 e78 e79 e80 e81 e82 e83 e84 e85 e86 e87 e88 e89 e90 e91 z44 e92 e93 e94 e95 e96 e97 e98, PySem.W.mg_of X G a100, ec_Doomed e103 e104 e105 e106 e107 e108 e109 e110 e111 e112 e113 e114 e115 e116 e117 z44 e118 e119 e120 e121 e122 e123 e124, PySem.W.mg_of X G a126, ec_Refused e129 e130 e131 e132 e133 e134 e135 e136 e137 e138 e139 e140 e141 e142 e143 z44 e144 e145 e146 e147 e148 e149, PySem.W.mg_of X G a151, ec_NoBlock e154 e155 e156 e157 e158 e159 e160 e161 e162 e163 e164 e165 e166 e167 e168 z44 e169 e170 e171 e172 e173 , PySem.W.mg_of X G a175, ec_Waits e178 e179 e180 e181 e182 e183 e184 e185 e186 e187 e188 e189 e190 e191 e192 z44 e193 e194 e195 e196 e197 e198 e199, PySem.W.mg_of X G a201, ec_NoRecord e204 e205 e206 e207 e208 e209 e210 e211 e212 e213 e214 e215 e216 e217 e218 z44 e219 e220 e221 e222 e223 e224, PySem.W.mg_of X G a226, ec_BadWord e229 e230 e231 e232 e233 e234 e235 e236 e237 e238 e239 e240 e241 e242 e243 z44 e244 e245 e246 e247 e248 e249, PySem.W.mg_of X G a251, ec_BadMode e254 e255 e256 e257 e258 e259 e260 e261 e262 e263 e264 e265 e266 e267 e268 z44 e269 e270 e271 e272 e273 e274, z275, z276, z277, z278, z279, z280, z281, z282, z283, PySem.W.mg_of X G a285, ⟨q286, q287, q288, q289⟩, z290, z291, z292, z293, z294, F300, b300, ⟨q296, q297, q298, q299⟩, PySem.W.mg_of X G a302, ⟨q303, q304, q305, q306⟩, z307, z308, F314, b314, ⟨q310, q311, q312, q313⟩, PySem.W.mg_of X G a316, ⟨q317, q318, q319, q320⟩, z321, z322, z323, z324, z325, F331, b331, ⟨q327, q328, q329, q330⟩, F335, b335, ⟨q333, q334, k335⟩, F339, b339, ⟨q337, q338, k339⟩, F343, b343, ⟨q341, q342, k343⟩, F347, b347, ⟨q345, q346, k347⟩, F351, ⟨q349, q350, k351⟩, F362, b362, ⟨q360, q361, k362⟩, F366, b366, ⟨q364, q365, k366⟩, F370, ⟨q368, q369, k370⟩, F384, b384, ⟨q382, q383, k384⟩, F388, b388, ⟨q386, q387, k388⟩, F392, b392, ⟨q390, q391, k392⟩, F396, b396, ⟨q394, q395, k396⟩, F400, b400, ⟨q398, q399, k400⟩, F404, b404, ⟨q402, q403, k404⟩, F408, b408, ⟨q406, q407, k408⟩, F412, b412, ⟨q410, q411, k412⟩, F420, b420, ⟨q416, q417, q418, _, q419⟩, F428, b428, ⟨q424, q425, q426, _, q427⟩, F436, b436, ⟨q432, q433, q434, _, q435⟩, F444, b444, ⟨q440, q441, q442, _, q443⟩, F452, b452, ⟨q448, q449, q450, _, q451⟩, z453, F456, b456, PySem.W.mg_of X G a455, F459, b459, PySem.W.mg_of X G a458, F462, b462, PySem.W.mg_of X G a461, F465, b465, PySem.W.mg_of X G a464, F468, b468, PySem.W.mg_of X G a467, F471, b471, PySem.W.mg_of X G a470, F472, b472, hfa, PySem.W.mg_none_of X G z473, PySem.W.mg_none_of X G z474, PySem.W.mg_none_of X G z475, PySem.W.mg_none_of X G z476, PySem.W.mg_none_of X G z477, PySem.W.mg_none_of X G z478, PySem.W.mg_none_of X G z479, PySem.W.mg_none_of X G z480, PySem.W.mg_none_of X G z481, PySem.W.mg_none_of X G z482, PySem.W.mg_none_of X G z483, PySem.W.mg_none_of X G z484⟩
  exact ⟨_, fun s v => .of_eq rfl, fun base _ _ => ok_law T⟩
theorem all_mk' {w : World} {K : PySem.W.Frag} {h : Heap} {mg : Str → Option Value} {fa f0 : Addr} (X : K.In h) (G : h.Ns mainGlobals mg) (hfa0 : mg "law" = some (.ref fa))
    {C1 : Addr}
    {t6 : Tok}
    {t8 : Tok}
    {t10 : Tok}
    {t12 : Tok}
    {t14 : Tok}
    {t16 : Tok}
    {t18 : Tok}
    {t20 : Tok}
    {t24 t25 t26 t27 t28 t29 t30 t31 : Tok} {p22 : Addr} {dd32 : Option Addr} {nn33 : Nat} {sl34 : Array (Option Value)}
    {f35 p36 : Addr} {rs39 : List Value}
    {od40 an40 : Option Addr} {sl40 : Array (Option Value)} {oc40 kV40 dc40 pm40 cd40 ct40 : Value}
    {f41 : Addr}
    {od43 an43 : Option Addr} {sl43 : Array (Option Value)} {oc43 kV43 dc43 pm43 cd43 ct43 : Value}
    {C45 : Addr}
    {C47 : Addr}
    {f49 : Addr} {nm50 qn50 : Str} {N50 : Addr} {bs50 bm50 : List Value} {sn50 : List Str} {sub50 : List Value} {ab50 : Bool} {col50 : Option Bool} {dd50 : Option Addr} {k050 k150 k250 k350 k550 : Option Value}
    {oc50 : Value} {od50 : Option Addr} {doc50 pm50 : Value} {an50 : Option Addr} {cda50 cc50 : Addr} {ct50 : Value} {osl50 : Array (Option Value)} {ccl50 : Value} {cdd50 : Option Addr} {vs50 : Array Value} {ccs50 : Array (Option Value)} {tf50 : Tok} {cl50 : Value} {cld50 : Option Addr} {csl50 : Array (Option Value)}
    {C73 : Addr}
    {f75 : Addr} {nm76 qn76 : Str} {N76 : Addr} {bs76 bm76 : List Value} {sn76 : List Str} {sub76 : List Value} {ab76 : Bool} {col76 : Option Bool} {dd76 : Option Addr} {k076 k176 k276 k376 k576 : Option Value}
    {oc76 : Value} {od76 : Option Addr} {doc76 pm76 : Value} {an76 : Option Addr} {cda76 cc76 : Addr} {ct76 : Value} {osl76 : Array (Option Value)} {ccl76 : Value} {cdd76 : Option Addr} {vs76 : Array Value} {ccs76 : Array (Option Value)} {tf76 : Tok} {cl76 : Value} {cld76 : Option Addr} {csl76 : Array (Option Value)}
    {C99 : Addr}
    {f101 : Addr} {nm102 qn102 : Str} {N102 : Addr} {bs102 bm102 : List Value} {sn102 : List Str} {sub102 : List Value} {ab102 : Bool} {col102 : Option Bool} {dd102 : Option Addr} {k0102 k1102 k2102 k3102 k5102 : Option Value}
    {oc102 : Value} {od102 : Option Addr} {doc102 pm102 : Value} {an102 : Option Addr} {cda102 cc102 : Addr} {ct102 : Value} {osl102 : Array (Option Value)} {ccl102 : Value} {cdd102 : Option Addr} {vs102 : Array Value} {ccs102 : Array (Option Value)} {tf102 : Tok} {cl102 : Value} {cld102 : Option Addr} {csl102 : Array (Option Value)}
    {C125 : Addr}
    {f127 : Addr} {nm128 qn128 : Str} {N128 : Addr} {bs128 bm128 : List Value} {sn128 : List Str} {sub128 : List Value} {ab128 : Bool} {col128 : Option Bool} {dd128 : Option Addr} {k0128 k1128 k2128 k3128 k5128 : Option Value}
    {oc128 : Value} {od128 : Option Addr} {doc128 pm128 : Value} {an128 : Option Addr} {cda128 cc128 : Addr} {ct128 : Value} {osl128 : Array (Option Value)} {ccl128 : Value} {cdd128 : Option Addr} {vs128 : Array Value} {ccs128 : Array (Option Value)} {tf128 : Tok} {cl128 : Value} {cld128 : Option Addr} {csl128 : Array (Option Value)}
    {C150 : Addr}
    {f152 : Addr} {nm153 qn153 : Str} {N153 : Addr} {bs153 bm153 : List Value} {sn153 : List Str} {sub153 : List Value} {ab153 : Bool} {col153 : Option Bool} {dd153 : Option Addr} {k0153 k1153 k2153 k3153 k5153 : Option Value}
    {oc153 : Value} {od153 : Option Addr} {doc153 pm153 : Value} {an153 : Option Addr} {cda153 cc153 : Addr} {ct153 : Value} {osl153 : Array (Option Value)} {ccl153 : Value} {cdd153 : Option Addr} {vs153 : Array Value} {ccs153 : Array (Option Value)} {tf153 : Tok} {cl153 : Value} {cld153 : Option Addr} {csl153 : Array (Option Value)}
    {C174 : Addr}
    {f176 : Addr} {nm177 qn177 : Str} {N177 : Addr} {bs177 bm177 : List Value} {sn177 : List Str} {sub177 : List Value} {ab177 : Bool} {col177 : Option Bool} {dd177 : Option Addr} {k0177 k1177 k2177 k3177 k5177 : Option Value}
    {oc177 : Value} {od177 : Option Addr} {doc177 pm177 : Value} {an177 : Option Addr} {cda177 cc177 : Addr} {ct177 : Value} {osl177 : Array (Option Value)} {ccl177 : Value} {cdd177 : Option Addr} {vs177 : Array Value} {ccs177 : Array (Option Value)} {tf177 : Tok} {cl177 : Value} {cld177 : Option Addr} {csl177 : Array (Option Value)}
    {C200 : Addr}
    {f202 : Addr} {nm203 qn203 : Str} {N203 : Addr} {bs203 bm203 : List Value} {sn203 : List Str} {sub203 : List Value} {ab203 : Bool} {col203 : Option Bool} {dd203 : Option Addr} {k0203 k1203 k2203 k3203 k5203 : Option Value}
    {oc203 : Value} {od203 : Option Addr} {doc203 pm203 : Value} {an203 : Option Addr} {cda203 cc203 : Addr} {ct203 : Value} {osl203 : Array (Option Value)} {ccl203 : Value} {cdd203 : Option Addr} {vs203 : Array Value} {ccs203 : Array (Option Value)} {tf203 : Tok} {cl203 : Value} {cld203 : Option Addr} {csl203 : Array (Option Value)}
    {C225 : Addr}
    {f227 : Addr} {nm228 qn228 : Str} {N228 : Addr} {bs228 bm228 : List Value} {sn228 : List Str} {sub228 : List Value} {ab228 : Bool} {col228 : Option Bool} {dd228 : Option Addr} {k0228 k1228 k2228 k3228 k5228 : Option Value}
    {oc228 : Value} {od228 : Option Addr} {doc228 pm228 : Value} {an228 : Option Addr} {cda228 cc228 : Addr} {ct228 : Value} {osl228 : Array (Option Value)} {ccl228 : Value} {cdd228 : Option Addr} {vs228 : Array Value} {ccs228 : Array (Option Value)} {tf228 : Tok} {cl228 : Value} {cld228 : Option Addr} {csl228 : Array (Option Value)}
    {C250 : Addr}
    {f252 : Addr} {nm253 qn253 : Str} {N253 : Addr} {bs253 bm253 : List Value} {sn253 : List Str} {sub253 : List Value} {ab253 : Bool} {col253 : Option Bool} {dd253 : Option Addr} {k0253 k1253 k2253 k3253 k5253 : Option Value}
    {oc253 : Value} {od253 : Option Addr} {doc253 pm253 : Value} {an253 : Option Addr} {cda253 cc253 : Addr} {ct253 : Value} {osl253 : Array (Option Value)} {ccl253 : Value} {cdd253 : Option Addr} {vs253 : Array Value} {ccs253 : Array (Option Value)} {tf253 : Tok} {cl253 : Value} {cld253 : Option Addr} {csl253 : Array (Option Value)}
    {C284 : Addr}
    {f295 : Addr}
    {od300 an300 : Option Addr} {sl300 : Array (Option Value)} {oc300 kV300 dc300 pm300 cd300 ct300 : Value}
    {C301 : Addr}
    {f309 : Addr}
    {od314 an314 : Option Addr} {sl314 : Array (Option Value)} {oc314 kV314 dc314 pm314 cd314 ct314 : Value}
    {C315 : Addr}
    {f326 : Addr}
    {od331 an331 : Option Addr} {sl331 : Array (Option Value)} {oc331 kV331 dc331 pm331 cd331 ct331 : Value}
    {f332 : Addr}
    {od335 an335 : Option Addr} {sl335 : Array (Option Value)} {oc335 kV335 dc335 pm335 cd335 ct335 : Value}
    {f336 : Addr}
    {od339 an339 : Option Addr} {sl339 : Array (Option Value)} {oc339 kV339 dc339 pm339 cd339 ct339 : Value}
    {f340 : Addr}
    {od343 an343 : Option Addr} {sl343 : Array (Option Value)} {oc343 kV343 dc343 pm343 cd343 ct343 : Value}
    {f344 : Addr}
    {od347 an347 : Option Addr} {sl347 : Array (Option Value)} {oc347 kV347 dc347 pm347 cd347 ct347 : Value}
    {f348 : Addr}
    {od351 an351 : Option Addr} {sl351 : Array (Option Value)} {oc351 dc351 pm351 cd351 ct351 : Value}
    {T352 : Addr} {oc353 : Value} {od354 : Option Addr} {on355 : Nat} {os356 : Array (Option Value)}
    {t357 : Tok}
    {kV351 : Value}
    {f359 : Addr}
    {od362 an362 : Option Addr} {sl362 : Array (Option Value)} {oc362 kV362 dc362 pm362 cd362 ct362 : Value}
    {f363 : Addr}
    {od366 an366 : Option Addr} {sl366 : Array (Option Value)} {oc366 kV366 dc366 pm366 cd366 ct366 : Value}
    {f367 : Addr}
    {od370 an370 : Option Addr} {sl370 : Array (Option Value)} {oc370 dc370 pm370 cd370 ct370 : Value}
    {T371 : Addr} {oc372 : Value} {od373 : Option Addr} {on374 : Nat} {os375 : Array (Option Value)}
    {D378 : Addr}
    {f381 : Addr}
    {od384 an384 : Option Addr} {sl384 : Array (Option Value)} {oc384 kV384 dc384 pm384 cd384 ct384 : Value}
    {f385 : Addr}
    {od388 an388 : Option Addr} {sl388 : Array (Option Value)} {oc388 kV388 dc388 pm388 cd388 ct388 : Value}
    {f389 : Addr}
    {od392 an392 : Option Addr} {sl392 : Array (Option Value)} {oc392 kV392 dc392 pm392 cd392 ct392 : Value}
    {f393 : Addr}
    {od396 an396 : Option Addr} {sl396 : Array (Option Value)} {oc396 kV396 dc396 pm396 cd396 ct396 : Value}
    {f397 : Addr}
    {od400 an400 : Option Addr} {sl400 : Array (Option Value)} {oc400 kV400 dc400 pm400 cd400 ct400 : Value}
    {f401 : Addr}
    {od404 an404 : Option Addr} {sl404 : Array (Option Value)} {oc404 kV404 dc404 pm404 cd404 ct404 : Value}
    {f405 : Addr}
    {od408 an408 : Option Addr} {sl408 : Array (Option Value)} {oc408 kV408 dc408 pm408 cd408 ct408 : Value}
    {f409 : Addr}
    {od412 an412 : Option Addr} {sl412 : Array (Option Value)} {oc412 kV412 dc412 pm412 cd412 ct412 : Value}
    {f413 p414 : Addr} {rs415 : List Value}
    {od420 an420 : Option Addr} {sl420 : Array (Option Value)} {oc420 kV420 dc420 pm420 cd420 ct420 : Value}
    {f421 p422 : Addr} {rs423 : List Value}
    {od428 an428 : Option Addr} {sl428 : Array (Option Value)} {oc428 kV428 dc428 pm428 cd428 ct428 : Value}
    {f429 p430 : Addr} {rs431 : List Value}
    {od436 an436 : Option Addr} {sl436 : Array (Option Value)} {oc436 kV436 dc436 pm436 cd436 ct436 : Value}
    {f437 p438 : Addr} {rs439 : List Value}
    {od444 an444 : Option Addr} {sl444 : Array (Option Value)} {oc444 kV444 dc444 pm444 cd444 ct444 : Value}
    {f445 p446 : Addr} {rs447 : List Value}
    {od452 an452 : Option Addr} {sl452 : Array (Option Value)} {oc452 kV452 dc452 pm452 cd452 ct452 : Value}
    {f454 : Addr}
    {od456 an456 : Option Addr} {sl456 : Array (Option Value)} {oc456 kV456 dc456 pm456 cd456 ct456 : Value}
    {f457 : Addr}
    {od459 an459 : Option Addr} {sl459 : Array (Option Value)} {oc459 kV459 dc459 pm459 cd459 ct459 : Value}
    {f460 : Addr}
    {od462 an462 : Option Addr} {sl462 : Array (Option Value)} {oc462 kV462 dc462 pm462 cd462 ct462 : Value}
    {f463 : Addr}
    {od465 an465 : Option Addr} {sl465 : Array (Option Value)} {oc465 kV465 dc465 pm465 cd465 ct465 : Value}
    {f466 : Addr}
    {od468 an468 : Option Addr} {sl468 : Array (Option Value)} {oc468 kV468 dc468 pm468 cd468 ct468 : Value}
    {f469 : Addr}
    {od471 an471 : Option Addr} {sl471 : Array (Option Value)} {oc471 kV471 dc471 pm471 cd471 ct471 : Value}
    {od472 an472 : Option Addr} {sl472 : Array (Option Value)} {oc472 kV472 dc472 pm472 cd472 ct472 : Value}
    (a0 : PySem.W.nsIn K mainGlobals "law" = some (some (.ref f0)))
    (a2 : PySem.W.nsIn K mainGlobals "Mode" = some (some (.ref C1)))
    (r3 : PySem.W.readsIn K C1 (.type "type") = true)
    (s4 : PySem.W.specialIn K (.ref C1) "__getattribute__" = some (some (.builtin "type.__getattribute__")))
    (z5 : PySem.W.findCls K (.ref C1) (.type "type") "JOIN" = some (.val (.str "join" t6)))
    (z7 : PySem.W.findCls K (.ref C1) (.type "type") "INNER" = some (.val (.str "inner" t8)))
    (z9 : PySem.W.findCls K (.ref C1) (.type "type") "APART" = some (.val (.str "apart" t10)))
    (z11 : PySem.W.findCls K (.ref C1) (.type "type") "MUST" = some (.val (.str "must" t12)))
    (z13 : PySem.W.findCls K (.ref C1) (.type "type") "EITHER" = some (.val (.str "either" t14)))
    (z15 : PySem.W.findCls K (.ref C1) (.type "type") "NEVER" = some (.val (.str "never" t16)))
    (z17 : PySem.W.findCls K (.ref C1) (.type "type") "OUTSIDE" = some (.val (.str "outside" t18)))
    (z19 : PySem.W.findCls K (.ref C1) (.type "type") "ALONE" = some (.val (.str "alone" t20)))
    (z21 : PySem.W.findCls K (.ref C1) (.type "type") "ALL" = some (.val (.ref p22)))
    (l23 : K.lookup p22 = some ⟨.type "tuple", dd32, .seq #[.str "join" t24, .str "inner" t25, .str "apart" t26, .str "must" t27, .str "either" t28, .str "never" t29, .str "outside" t30, .str "alone" t31] nn33, sl34⟩)
    (z37 : PySem.W.findCls K (.ref C1) (.type "type") "is_mode" = some (.get (.builtin "staticmethod.__get__") (.ref p36) .none (.ref C1)))
    (r38 : PySem.W.recIn K p36 "staticmethod" = some (.ref f35 :: rs39))
    (l40 : K.lookup f35 = some ⟨oc40, od40, .func (PySem.W.fnOf "is_mode" "Mode.is_mode" (defArgs s_Mode_is_mode) (defBody s_Mode_is_mode) (defScope s_Mode_is_mode) .none kV40 dc40 pm40 an40 cd40 ct40), sl40⟩)
    (c40 : PySem.W.codeIn K cd40 "Mode.is_mode" = true)
    (k40 : PySem.W.keepIn K (.ref f35) = true)
    (a42 : PySem.W.nsIn K mainGlobals "is_word" = some (some (.ref f41)))
    (l43 : K.lookup f41 = some ⟨oc43, od43, .func (PySem.W.fnOf "is_word" "is_word" (defArgs s_is_word) (defBody s_is_word) (defScope s_is_word) .none kV43 dc43 pm43 an43 cd43 ct43), sl43⟩)
    (c43 : PySem.W.codeIn K cd43 "is_word" = true)
    (k43 : PySem.W.keepIn K (.ref f41) = true)
    (z44 : PySem.W.nsIn K cStatics "thirdparty.any" = some none)
    (a46 : PySem.W.nsIn K mainGlobals "InnercommitsError" = some (some (.ref C45)))
    (a48 : PySem.W.nsIn K mainGlobals "Missing" = some (some (.ref C47)))
    (e51 : K.lookup C47 = some (excClassObj nm50 qn50 C47 N50 bs50 bm50 true sn50 sub50 ab50 col50 dd50 k050 k150 k250 k350 k550 "ValueError.__new__"))
    (e52 : PySem.HandSPX.refsVE bm50 = true)
    (e53 : PySem.W.findIn K (.ref C47) "__setattr__" = some (some (.builtin "object.__setattr__")))
    (e54 : PySem.W.findIn K (.ref C47) "__getattribute__" = some (some (.builtin "BaseException.__getattribute__")))
    (e55 : PySem.W.findIn K (.ref C47) "__getattr__" = some none)
    (e56 : PySem.W.findIn K (.ref C47) "__init__" = some (some (.ref f49)))
    (e57 : PySem.W.typeIn K (.ref f49) = some (.type "function"))
    (e58 : PySem.W.keepIn K (.ref C47) = true)
    (e59 : PySem.W.subIn K (.ref C47) (.type "BaseException") = some true)
    (e60 : PySem.W.subIn K (.ref C47) (.type "ValueError") = some true)
    (e61 : PySem.W.typeIn K (.ref C47) = some (.type "type"))
    (e62 : PySem.W.hasDictIn K C47 = true)
    (e63 : PySem.W.ks_superIn K C47 C47 "__init__" = some (some (.builtin "ValueError.__init__")))
    (e64 : PySem.W.mroIn K C47 (.ref C47) = some true)
    (e65 : PySem.W.exmOne K (.ref C47) (.ref C47) = some true)
    (e66 : K.lookup f49 = some ⟨oc50, od50, .func (PySem.W.ksFn "__init__" "Missing.__init__" (defArgs s_MissingU_initU) (defBody s_MissingU_initU) (defScope s_MissingU_initU) .none .none doc50 pm50 an50 (.ref cda50) ct50 cc50), osl50⟩)
    (e67 : PySem.W.codeIn K (.ref cda50) "Missing.__init__" = true)
    (e68 : K.lookup cda50 = some ⟨ccl50, cdd50, .fields vs50, ccs50⟩)
    (e69 : vs50[2]? = some (.str P.main.file tf50))
    (e70 : K.lookup cc50 = some ⟨cl50, cld50, .cell (some (.ref C47)), csl50⟩)
    (e71 : PySem.W.findIn K (.ref C47) "word" = some none)
    (e72 : PySem.W.findIn K (.ref C47) "mode" = some none)
    (a74 : PySem.W.nsIn K mainGlobals "Present" = some (some (.ref C73)))
    (e77 : K.lookup C73 = some (excClassObj nm76 qn76 C73 N76 bs76 bm76 true sn76 sub76 ab76 col76 dd76 k076 k176 k276 k376 k576 "ValueError.__new__"))
    (e78 : PySem.HandSPX.refsVE bm76 = true)
    (e79 : PySem.W.findIn K (.ref C73) "__setattr__" = some (some (.builtin "object.__setattr__")))
    (e80 : PySem.W.findIn K (.ref C73) "__getattribute__" = some (some (.builtin "BaseException.__getattribute__")))
    (e81 : PySem.W.findIn K (.ref C73) "__getattr__" = some none)
    (e82 : PySem.W.findIn K (.ref C73) "__init__" = some (some (.ref f75)))
    (e83 : PySem.W.typeIn K (.ref f75) = some (.type "function"))
    (e84 : PySem.W.keepIn K (.ref C73) = true)
    (e85 : PySem.W.subIn K (.ref C73) (.type "BaseException") = some true)
    (e86 : PySem.W.subIn K (.ref C73) (.type "ValueError") = some true)
    (e87 : PySem.W.typeIn K (.ref C73) = some (.type "type"))
    (e88 : PySem.W.hasDictIn K C73 = true)
    (e89 : PySem.W.ks_superIn K C73 C73 "__init__" = some (some (.builtin "ValueError.__init__")))
    (e90 : PySem.W.mroIn K C73 (.ref C73) = some true)
    (e91 : PySem.W.exmOne K (.ref C73) (.ref C73) = some true)
    (e92 : K.lookup f75 = some ⟨oc76, od76, .func (PySem.W.ksFn "__init__" "Present.__init__" (defArgs s_PresentU_initU) (defBody s_PresentU_initU) (defScope s_PresentU_initU) .none .none doc76 pm76 an76 (.ref cda76) ct76 cc76), osl76⟩)
    (e93 : PySem.W.codeIn K (.ref cda76) "Present.__init__" = true)
    (e94 : K.lookup cda76 = some ⟨ccl76, cdd76, .fields vs76, ccs76⟩)
    (e95 : vs76[2]? = some (.str P.main.file tf76))
    (e96 : K.lookup cc76 = some ⟨cl76, cld76, .cell (some (.ref C73)), csl76⟩)
    (e97 : PySem.W.findIn K (.ref C73) "word" = some none)
    (e98 : PySem.W.findIn K (.ref C73) "mode" = some none)
    (a100 : PySem.W.nsIn K mainGlobals "Doomed" = some (some (.ref C99)))
    (e103 : K.lookup C99 = some (excClassObj nm102 qn102 C99 N102 bs102 bm102 true sn102 sub102 ab102 col102 dd102 k0102 k1102 k2102 k3102 k5102 "ValueError.__new__"))
    (e104 : PySem.HandSPX.refsVE bm102 = true)
    (e105 : PySem.W.findIn K (.ref C99) "__setattr__" = some (some (.builtin "object.__setattr__")))
    (e106 : PySem.W.findIn K (.ref C99) "__getattribute__" = some (some (.builtin "BaseException.__getattribute__")))
    (e107 : PySem.W.findIn K (.ref C99) "__getattr__" = some none)
    (e108 : PySem.W.findIn K (.ref C99) "__init__" = some (some (.ref f101)))
    (e109 : PySem.W.typeIn K (.ref f101) = some (.type "function"))
    (e110 : PySem.W.keepIn K (.ref C99) = true)
    (e111 : PySem.W.subIn K (.ref C99) (.type "BaseException") = some true)
    (e112 : PySem.W.subIn K (.ref C99) (.type "ValueError") = some true)
    (e113 : PySem.W.typeIn K (.ref C99) = some (.type "type"))
    (e114 : PySem.W.hasDictIn K C99 = true)
    (e115 : PySem.W.ks_superIn K C99 C99 "__init__" = some (some (.builtin "ValueError.__init__")))
    (e116 : PySem.W.mroIn K C99 (.ref C99) = some true)
    (e117 : PySem.W.exmOne K (.ref C99) (.ref C99) = some true)
    (e118 : K.lookup f101 = some ⟨oc102, od102, .func (PySem.W.ksFn "__init__" "Doomed.__init__" (defArgs s_DoomedU_initU) (defBody s_DoomedU_initU) (defScope s_DoomedU_initU) .none .none doc102 pm102 an102 (.ref cda102) ct102 cc102), osl102⟩)
    (e119 : PySem.W.codeIn K (.ref cda102) "Doomed.__init__" = true)
    (e120 : K.lookup cda102 = some ⟨ccl102, cdd102, .fields vs102, ccs102⟩)
    (e121 : vs102[2]? = some (.str P.main.file tf102))
    (e122 : K.lookup cc102 = some ⟨cl102, cld102, .cell (some (.ref C99)), csl102⟩)
    (e123 : PySem.W.findIn K (.ref C99) "word" = some none)
    (e124 : PySem.W.findIn K (.ref C99) "first" = some none)
    (a126 : PySem.W.nsIn K mainGlobals "Refused" = some (some (.ref C125)))
    (e129 : K.lookup C125 = some (excClassObj nm128 qn128 C125 N128 bs128 bm128 true sn128 sub128 ab128 col128 dd128 k0128 k1128 k2128 k3128 k5128 "ValueError.__new__"))
    (e130 : PySem.HandSPX.refsVE bm128 = true)
    (e131 : PySem.W.findIn K (.ref C125) "__setattr__" = some (some (.builtin "object.__setattr__")))
    (e132 : PySem.W.findIn K (.ref C125) "__getattribute__" = some (some (.builtin "BaseException.__getattribute__")))
    (e133 : PySem.W.findIn K (.ref C125) "__getattr__" = some none)
    (e134 : PySem.W.findIn K (.ref C125) "__init__" = some (some (.ref f127)))
    (e135 : PySem.W.typeIn K (.ref f127) = some (.type "function"))
    (e136 : PySem.W.keepIn K (.ref C125) = true)
    (e137 : PySem.W.subIn K (.ref C125) (.type "BaseException") = some true)
    (e138 : PySem.W.subIn K (.ref C125) (.type "ValueError") = some true)
    (e139 : PySem.W.typeIn K (.ref C125) = some (.type "type"))
    (e140 : PySem.W.hasDictIn K C125 = true)
    (e141 : PySem.W.ks_superIn K C125 C125 "__init__" = some (some (.builtin "ValueError.__init__")))
    (e142 : PySem.W.mroIn K C125 (.ref C125) = some true)
    (e143 : PySem.W.exmOne K (.ref C125) (.ref C125) = some true)
    (e144 : K.lookup f127 = some ⟨oc128, od128, .func (PySem.W.ksFn "__init__" "Refused.__init__" (defArgs s_RefusedU_initU) (defBody s_RefusedU_initU) (defScope s_RefusedU_initU) .none .none doc128 pm128 an128 (.ref cda128) ct128 cc128), osl128⟩)
    (e145 : PySem.W.codeIn K (.ref cda128) "Refused.__init__" = true)
    (e146 : K.lookup cda128 = some ⟨ccl128, cdd128, .fields vs128, ccs128⟩)
    (e147 : vs128[2]? = some (.str P.main.file tf128))
    (e148 : K.lookup cc128 = some ⟨cl128, cld128, .cell (some (.ref C125)), csl128⟩)
    (e149 : PySem.W.findIn K (.ref C125) "word" = some none)
    (a151 : PySem.W.nsIn K mainGlobals "NoBlock" = some (some (.ref C150)))
    (e154 : K.lookup C150 = some (excClassObj nm153 qn153 C150 N153 bs153 bm153 true sn153 sub153 ab153 col153 dd153 k0153 k1153 k2153 k3153 k5153 "ValueError.__new__"))
    (e155 : PySem.HandSPX.refsVE bm153 = true)
    (e156 : PySem.W.findIn K (.ref C150) "__setattr__" = some (some (.builtin "object.__setattr__")))
    (e157 : PySem.W.findIn K (.ref C150) "__getattribute__" = some (some (.builtin "BaseException.__getattribute__")))
    (e158 : PySem.W.findIn K (.ref C150) "__getattr__" = some none)
    (e159 : PySem.W.findIn K (.ref C150) "__init__" = some (some (.ref f152)))
    (e160 : PySem.W.typeIn K (.ref f152) = some (.type "function"))
    (e161 : PySem.W.keepIn K (.ref C150) = true)
    (e162 : PySem.W.subIn K (.ref C150) (.type "BaseException") = some true)
    (e163 : PySem.W.subIn K (.ref C150) (.type "ValueError") = some true)
    (e164 : PySem.W.typeIn K (.ref C150) = some (.type "type"))
    (e165 : PySem.W.hasDictIn K C150 = true)
    (e166 : PySem.W.ks_superIn K C150 C150 "__init__" = some (some (.builtin "ValueError.__init__")))
    (e167 : PySem.W.mroIn K C150 (.ref C150) = some true)
    (e168 : PySem.W.exmOne K (.ref C150) (.ref C150) = some true)
    (e169 : K.lookup f152 = some ⟨oc153, od153, .func (PySem.W.ksFn "__init__" "NoBlock.__init__" (defArgs s_NoBlockU_initU) (defBody s_NoBlockU_initU) (defScope s_NoBlockU_initU) .none .none doc153 pm153 an153 (.ref cda153) ct153 cc153), osl153⟩)
    (e170 : PySem.W.codeIn K (.ref cda153) "NoBlock.__init__" = true)
    (e171 : K.lookup cda153 = some ⟨ccl153, cdd153, .fields vs153, ccs153⟩)
    (e172 : vs153[2]? = some (.str P.main.file tf153))
    (e173 : K.lookup cc153 = some ⟨cl153, cld153, .cell (some (.ref C150)), csl153⟩)
    (a175 : PySem.W.nsIn K mainGlobals "Waits" = some (some (.ref C174)))
    (e178 : K.lookup C174 = some (excClassObj nm177 qn177 C174 N177 bs177 bm177 true sn177 sub177 ab177 col177 dd177 k0177 k1177 k2177 k3177 k5177 "ValueError.__new__"))
    (e179 : PySem.HandSPX.refsVE bm177 = true)
    (e180 : PySem.W.findIn K (.ref C174) "__setattr__" = some (some (.builtin "object.__setattr__")))
    (e181 : PySem.W.findIn K (.ref C174) "__getattribute__" = some (some (.builtin "BaseException.__getattribute__")))
    (e182 : PySem.W.findIn K (.ref C174) "__getattr__" = some none)
    (e183 : PySem.W.findIn K (.ref C174) "__init__" = some (some (.ref f176)))
    (e184 : PySem.W.typeIn K (.ref f176) = some (.type "function"))
    (e185 : PySem.W.keepIn K (.ref C174) = true)
    (e186 : PySem.W.subIn K (.ref C174) (.type "BaseException") = some true)
    (e187 : PySem.W.subIn K (.ref C174) (.type "ValueError") = some true)
    (e188 : PySem.W.typeIn K (.ref C174) = some (.type "type"))
    (e189 : PySem.W.hasDictIn K C174 = true)
    (e190 : PySem.W.ks_superIn K C174 C174 "__init__" = some (some (.builtin "ValueError.__init__")))
    (e191 : PySem.W.mroIn K C174 (.ref C174) = some true)
    (e192 : PySem.W.exmOne K (.ref C174) (.ref C174) = some true)
    (e193 : K.lookup f176 = some ⟨oc177, od177, .func (PySem.W.ksFn "__init__" "Waits.__init__" (defArgs s_WaitsU_initU) (defBody s_WaitsU_initU) (defScope s_WaitsU_initU) .none .none doc177 pm177 an177 (.ref cda177) ct177 cc177), osl177⟩)
    (e194 : PySem.W.codeIn K (.ref cda177) "Waits.__init__" = true)
    (e195 : K.lookup cda177 = some ⟨ccl177, cdd177, .fields vs177, ccs177⟩)
    (e196 : vs177[2]? = some (.str P.main.file tf177))
    (e197 : K.lookup cc177 = some ⟨cl177, cld177, .cell (some (.ref C174)), csl177⟩)
    (e198 : PySem.W.findIn K (.ref C174) "word" = some none)
    (e199 : PySem.W.findIn K (.ref C174) "record" = some none)
    (a201 : PySem.W.nsIn K mainGlobals "NoRecord" = some (some (.ref C200)))
    (e204 : K.lookup C200 = some (excClassObj nm203 qn203 C200 N203 bs203 bm203 true sn203 sub203 ab203 col203 dd203 k0203 k1203 k2203 k3203 k5203 "ValueError.__new__"))
    (e205 : PySem.HandSPX.refsVE bm203 = true)
    (e206 : PySem.W.findIn K (.ref C200) "__setattr__" = some (some (.builtin "object.__setattr__")))
    (e207 : PySem.W.findIn K (.ref C200) "__getattribute__" = some (some (.builtin "BaseException.__getattribute__")))
    (e208 : PySem.W.findIn K (.ref C200) "__getattr__" = some none)
    (e209 : PySem.W.findIn K (.ref C200) "__init__" = some (some (.ref f202)))
    (e210 : PySem.W.typeIn K (.ref f202) = some (.type "function"))
    (e211 : PySem.W.keepIn K (.ref C200) = true)
    (e212 : PySem.W.subIn K (.ref C200) (.type "BaseException") = some true)
    (e213 : PySem.W.subIn K (.ref C200) (.type "ValueError") = some true)
    (e214 : PySem.W.typeIn K (.ref C200) = some (.type "type"))
    (e215 : PySem.W.hasDictIn K C200 = true)
    (e216 : PySem.W.ks_superIn K C200 C200 "__init__" = some (some (.builtin "ValueError.__init__")))
    (e217 : PySem.W.mroIn K C200 (.ref C200) = some true)
    (e218 : PySem.W.exmOne K (.ref C200) (.ref C200) = some true)
    (e219 : K.lookup f202 = some ⟨oc203, od203, .func (PySem.W.ksFn "__init__" "NoRecord.__init__" (defArgs s_NoRecordU_initU) (defBody s_NoRecordU_initU) (defScope s_NoRecordU_initU) .none .none doc203 pm203 an203 (.ref cda203) ct203 cc203), osl203⟩)
    (e220 : PySem.W.codeIn K (.ref cda203) "NoRecord.__init__" = true)
    (e221 : K.lookup cda203 = some ⟨ccl203, cdd203, .fields vs203, ccs203⟩)
    (e222 : vs203[2]? = some (.str P.main.file tf203))
    (e223 : K.lookup cc203 = some ⟨cl203, cld203, .cell (some (.ref C200)), csl203⟩)
    (e224 : PySem.W.findIn K (.ref C200) "record" = some none)
    (a226 : PySem.W.nsIn K mainGlobals "BadWord" = some (some (.ref C225)))
    (e229 : K.lookup C225 = some (excClassObj nm228 qn228 C225 N228 bs228 bm228 true sn228 sub228 ab228 col228 dd228 k0228 k1228 k2228 k3228 k5228 "ValueError.__new__"))
    (e230 : PySem.HandSPX.refsVE bm228 = true)
    (e231 : PySem.W.findIn K (.ref C225) "__setattr__" = some (some (.builtin "object.__setattr__")))
    (e232 : PySem.W.findIn K (.ref C225) "__getattribute__" = some (some (.builtin "BaseException.__getattribute__")))
    (e233 : PySem.W.findIn K (.ref C225) "__getattr__" = some none)
    (e234 : PySem.W.findIn K (.ref C225) "__init__" = some (some (.ref f227)))
    (e235 : PySem.W.typeIn K (.ref f227) = some (.type "function"))
    (e236 : PySem.W.keepIn K (.ref C225) = true)
    (e237 : PySem.W.subIn K (.ref C225) (.type "BaseException") = some true)
    (e238 : PySem.W.subIn K (.ref C225) (.type "ValueError") = some true)
    (e239 : PySem.W.typeIn K (.ref C225) = some (.type "type"))
    (e240 : PySem.W.hasDictIn K C225 = true)
    (e241 : PySem.W.ks_superIn K C225 C225 "__init__" = some (some (.builtin "ValueError.__init__")))
    (e242 : PySem.W.mroIn K C225 (.ref C225) = some true)
    (e243 : PySem.W.exmOne K (.ref C225) (.ref C225) = some true)
    (e244 : K.lookup f227 = some ⟨oc228, od228, .func (PySem.W.ksFn "__init__" "BadWord.__init__" (defArgs s_BadWordU_initU) (defBody s_BadWordU_initU) (defScope s_BadWordU_initU) .none .none doc228 pm228 an228 (.ref cda228) ct228 cc228), osl228⟩)
    (e245 : PySem.W.codeIn K (.ref cda228) "BadWord.__init__" = true)
    (e246 : K.lookup cda228 = some ⟨ccl228, cdd228, .fields vs228, ccs228⟩)
    (e247 : vs228[2]? = some (.str P.main.file tf228))
    (e248 : K.lookup cc228 = some ⟨cl228, cld228, .cell (some (.ref C225)), csl228⟩)
    (e249 : PySem.W.findIn K (.ref C225) "word" = some none)
    (a251 : PySem.W.nsIn K mainGlobals "BadMode" = some (some (.ref C250)))
    (e254 : K.lookup C250 = some (excClassObj nm253 qn253 C250 N253 bs253 bm253 true sn253 sub253 ab253 col253 dd253 k0253 k1253 k2253 k3253 k5253 "ValueError.__new__"))
    (e255 : PySem.HandSPX.refsVE bm253 = true)
    (e256 : PySem.W.findIn K (.ref C250) "__setattr__" = some (some (.builtin "object.__setattr__")))
    (e257 : PySem.W.findIn K (.ref C250) "__getattribute__" = some (some (.builtin "BaseException.__getattribute__")))
    (e258 : PySem.W.findIn K (.ref C250) "__getattr__" = some none)
    (e259 : PySem.W.findIn K (.ref C250) "__init__" = some (some (.ref f252)))
    (e260 : PySem.W.typeIn K (.ref f252) = some (.type "function"))
    (e261 : PySem.W.keepIn K (.ref C250) = true)
    (e262 : PySem.W.subIn K (.ref C250) (.type "BaseException") = some true)
    (e263 : PySem.W.subIn K (.ref C250) (.type "ValueError") = some true)
    (e264 : PySem.W.typeIn K (.ref C250) = some (.type "type"))
    (e265 : PySem.W.hasDictIn K C250 = true)
    (e266 : PySem.W.ks_superIn K C250 C250 "__init__" = some (some (.builtin "ValueError.__init__")))
    (e267 : PySem.W.mroIn K C250 (.ref C250) = some true)
    (e268 : PySem.W.exmOne K (.ref C250) (.ref C250) = some true)
    (e269 : K.lookup f252 = some ⟨oc253, od253, .func (PySem.W.ksFn "__init__" "BadMode.__init__" (defArgs s_BadModeU_initU) (defBody s_BadModeU_initU) (defScope s_BadModeU_initU) .none .none doc253 pm253 an253 (.ref cda253) ct253 cc253), osl253⟩)
    (e270 : PySem.W.codeIn K (.ref cda253) "BadMode.__init__" = true)
    (e271 : K.lookup cda253 = some ⟨ccl253, cdd253, .fields vs253, ccs253⟩)
    (e272 : vs253[2]? = some (.str P.main.file tf253))
    (e273 : K.lookup cc253 = some ⟨cl253, cld253, .cell (some (.ref C250)), csl253⟩)
    (e274 : PySem.W.findIn K (.ref C250) "mode" = some none)
    (z275 : PySem.W.exmOne K (.ref C47) (.ref C45) = some true)
    (z276 : PySem.W.exmOne K (.ref C73) (.ref C45) = some true)
    (z277 : PySem.W.exmOne K (.ref C99) (.ref C45) = some true)
    (z278 : PySem.W.exmOne K (.ref C125) (.ref C45) = some true)
    (z279 : PySem.W.exmOne K (.ref C150) (.ref C45) = some true)
    (z280 : PySem.W.exmOne K (.ref C174) (.ref C45) = some true)
    (z281 : PySem.W.exmOne K (.ref C200) (.ref C45) = some true)
    (z282 : PySem.W.exmOne K (.ref C225) (.ref C45) = some true)
    (z283 : PySem.W.exmOne K (.ref C250) (.ref C45) = some true)
    (a285 : PySem.W.nsIn K mainGlobals "Write" = some (some (.ref C284)))
    (q286 : PySem.W.plainGet K C284 Str.empty = true)
    (q287 : PySem.W.hasDictIn K C284 = true)
    (q288 : PySem.W.plainOver K C284 = true)
    (q289 : PySem.W.findIn K (.ref C284) "__setattr__" = some (some (.builtin "object.__setattr__")))
    (z290 : PySem.W.findIn K (.ref C284) "record" = some none)
    (z291 : PySem.W.findIn K (.ref C284) "value" = some none)
    (z292 : PySem.W.findIn K (.ref C284) "fate" = some none)
    (z293 : PySem.W.findIn K (.ref C284) "holder" = some none)
    (z294 : PySem.W.findIn K (.ref C284) "level" = some none)
    (q296 : PySem.W.makesIn K C284 = true)
    (q297 : PySem.W.findIn K (.ref C284) "__init__" = some (some (.ref f295)))
    (q298 : PySem.W.isFn K (.ref f295) = true)
    (q299 : PySem.W.keepIn K (.ref C284) = true)
    (l300 : K.lookup f295 = some ⟨oc300, od300, .func (PySem.W.fnOf "__init__" "Write.__init__" (defArgs s_WriteU_initU) (defBody s_WriteU_initU) (defScope s_WriteU_initU) .none kV300 dc300 pm300 an300 cd300 ct300), sl300⟩)
    (c300 : PySem.W.codeIn K cd300 "Write.__init__" = true)
    (k300 : PySem.W.keepIn K (.ref f295) = true)
    (a302 : PySem.W.nsIn K mainGlobals "Transaction" = some (some (.ref C301)))
    (q303 : PySem.W.plainGet K C301 Str.empty = true)
    (q304 : PySem.W.hasDictIn K C301 = true)
    (q305 : PySem.W.plainOver K C301 = true)
    (q306 : PySem.W.findIn K (.ref C301) "__setattr__" = some (some (.builtin "object.__setattr__")))
    (z307 : PySem.W.findIn K (.ref C301) "number" = some none)
    (z308 : PySem.W.findIn K (.ref C301) "reasons" = some none)
    (q310 : PySem.W.makesIn K C301 = true)
    (q311 : PySem.W.findIn K (.ref C301) "__init__" = some (some (.ref f309)))
    (q312 : PySem.W.isFn K (.ref f309) = true)
    (q313 : PySem.W.keepIn K (.ref C301) = true)
    (l314 : K.lookup f309 = some ⟨oc314, od314, .func (PySem.W.fnOf "__init__" "Transaction.__init__" (defArgs s_TransactionU_initU) (defBody s_TransactionU_initU) (defScope s_TransactionU_initU) .none kV314 dc314 pm314 an314 cd314 ct314), sl314⟩)
    (c314 : PySem.W.codeIn K cd314 "Transaction.__init__" = true)
    (k314 : PySem.W.keepIn K (.ref f309) = true)
    (a316 : PySem.W.nsIn K mainGlobals "Database" = some (some (.ref C315)))
    (q317 : PySem.W.plainGet K C315 Str.empty = true)
    (q318 : PySem.W.hasDictIn K C315 = true)
    (q319 : PySem.W.plainOver K C315 = true)
    (q320 : PySem.W.findIn K (.ref C315) "__setattr__" = some (some (.builtin "object.__setattr__")))
    (z321 : PySem.W.findIn K (.ref C315) "rows" = some none)
    (z322 : PySem.W.findIn K (.ref C315) "stack" = some none)
    (z323 : PySem.W.findIn K (.ref C315) "entered" = some none)
    (z324 : PySem.W.findIn K (.ref C315) "floor" = some none)
    (z325 : PySem.W.findIn K (.ref C315) "opened" = some none)
    (q327 : PySem.W.makesIn K C315 = true)
    (q328 : PySem.W.findIn K (.ref C315) "__init__" = some (some (.ref f326)))
    (q329 : PySem.W.isFn K (.ref f326) = true)
    (q330 : PySem.W.keepIn K (.ref C315) = true)
    (l331 : K.lookup f326 = some ⟨oc331, od331, .func (PySem.W.fnOf "__init__" "Database.__init__" (defArgs s_DatabaseU_initU) (defBody s_DatabaseU_initU) (defScope s_DatabaseU_initU) .none kV331 dc331 pm331 an331 cd331 ct331), sl331⟩)
    (c331 : PySem.W.codeIn K cd331 "Database.__init__" = true)
    (k331 : PySem.W.keepIn K (.ref f326) = true)
    (q333 : PySem.W.findIn K (.ref C315) "begin" = some (some (.ref f332)))
    (q334 : PySem.W.isFn K (.ref f332) = true)
    (l335 : K.lookup f332 = some ⟨oc335, od335, .func (PySem.W.fnOf "begin" "Database.begin" (defArgs s_Database_begin) (defBody s_Database_begin) (defScope s_Database_begin) .none kV335 dc335 pm335 an335 cd335 ct335), sl335⟩)
    (c335 : PySem.W.codeIn K cd335 "Database.begin" = true)
    (k335 : PySem.W.keepIn K (.ref f332) = true)
    (q337 : PySem.W.findIn K (.ref C315) "enter_alone" = some (some (.ref f336)))
    (q338 : PySem.W.isFn K (.ref f336) = true)
    (l339 : K.lookup f336 = some ⟨oc339, od339, .func (PySem.W.fnOf "enter_alone" "Database.enter_alone" (defArgs s_Database_enter_alone) (defBody s_Database_enter_alone) (defScope s_Database_enter_alone) .none kV339 dc339 pm339 an339 cd339 ct339), sl339⟩)
    (c339 : PySem.W.codeIn K cd339 "Database.enter_alone" = true)
    (k339 : PySem.W.keepIn K (.ref f336) = true)
    (q341 : PySem.W.findIn K (.ref C315) "enter_inside" = some (some (.ref f340)))
    (q342 : PySem.W.isFn K (.ref f340) = true)
    (l343 : K.lookup f340 = some ⟨oc343, od343, .func (PySem.W.fnOf "enter_inside" "Database.enter_inside" (defArgs s_Database_enter_inside) (defBody s_Database_enter_inside) (defScope s_Database_enter_inside) .none kV343 dc343 pm343 an343 cd343 ct343), sl343⟩)
    (c343 : PySem.W.codeIn K cd343 "Database.enter_inside" = true)
    (k343 : PySem.W.keepIn K (.ref f340) = true)
    (q345 : PySem.W.findIn K (.ref C315) "enter" = some (some (.ref f344)))
    (q346 : PySem.W.isFn K (.ref f344) = true)
    (l347 : K.lookup f344 = some ⟨oc347, od347, .func (PySem.W.fnOf "enter" "Database.enter" (defArgs s_Database_enter) (defBody s_Database_enter) (defScope s_Database_enter) .none kV347 dc347 pm347 an347 cd347 ct347), sl347⟩)
    (c347 : PySem.W.codeIn K cd347 "Database.enter" = true)
    (k347 : PySem.W.keepIn K (.ref f344) = true)
    (q349 : PySem.W.findIn K (.ref C315) "doom" = some (some (.ref f348)))
    (q350 : PySem.W.isFn K (.ref f348) = true)
    (l351 : K.lookup f348 = some ⟨oc351, od351, .func (PySem.W.fnOf "doom" "Database.doom" (defArgs s_Database_doom) (defBody s_Database_doom) (defScope s_Database_doom) (.ref T352) kV351 dc351 pm351 an351 cd351 ct351), sl351⟩)
    (c351 : PySem.W.codeIn K cd351 "Database.doom" = true)
    (k351 : PySem.W.keepIn K (.ref f348) = true)
    (lT358 : K.lookup T352 = some ⟨oc353, od354, .seq #[.str "doom" t357] on355, os356⟩)
    (q360 : PySem.W.findIn K (.ref C315) "end_level" = some (some (.ref f359)))
    (q361 : PySem.W.isFn K (.ref f359) = true)
    (l362 : K.lookup f359 = some ⟨oc362, od362, .func (PySem.W.fnOf "end_level" "Database.end_level" (defArgs s_Database_end_level) (defBody s_Database_end_level) (defScope s_Database_end_level) .none kV362 dc362 pm362 an362 cd362 ct362), sl362⟩)
    (c362 : PySem.W.codeIn K cd362 "Database.end_level" = true)
    (k362 : PySem.W.keepIn K (.ref f359) = true)
    (q364 : PySem.W.findIn K (.ref C315) "end_transaction" = some (some (.ref f363)))
    (q365 : PySem.W.isFn K (.ref f363) = true)
    (l366 : K.lookup f363 = some ⟨oc366, od366, .func (PySem.W.fnOf "end_transaction" "Database.end_transaction" (defArgs s_Database_end_transaction) (defBody s_Database_end_transaction) (defScope s_Database_end_transaction) .none kV366 dc366 pm366 an366 cd366 ct366), sl366⟩)
    (c366 : PySem.W.codeIn K cd366 "Database.end_transaction" = true)
    (k366 : PySem.W.keepIn K (.ref f363) = true)
    (q368 : PySem.W.findIn K (.ref C315) "leave" = some (some (.ref f367)))
    (q369 : PySem.W.isFn K (.ref f367) = true)
    (l370 : K.lookup f367 = some ⟨oc370, od370, .func (PySem.W.fnOf "leave" "Database.leave" (defArgs s_Database_leave) (defBody s_Database_leave) (defScope s_Database_leave) (.ref T371) (.ref D378) dc370 pm370 an370 cd370 ct370), sl370⟩)
    (c370 : PySem.W.codeIn K cd370 "Database.leave" = true)
    (k370 : PySem.W.keepIn K (.ref f367) = true)
    (lT377 : K.lookup T371 = some ⟨oc372, od373, .seq #[.none] on374, os375⟩)
    (z380 : PySem.W.nsIn K D378 "commits" = some (some (.bool true)))
    (q382 : PySem.W.findIn K (.ref C315) "held_by" = some (some (.ref f381)))
    (q383 : PySem.W.isFn K (.ref f381) = true)
    (l384 : K.lookup f381 = some ⟨oc384, od384, .func (PySem.W.fnOf "held_by" "Database.held_by" (defArgs s_Database_held_by) (defBody s_Database_held_by) (defScope s_Database_held_by) .none kV384 dc384 pm384 an384 cd384 ct384), sl384⟩)
    (c384 : PySem.W.codeIn K cd384 "Database.held_by" = true)
    (k384 : PySem.W.keepIn K (.ref f381) = true)
    (q386 : PySem.W.findIn K (.ref C315) "held_records" = some (some (.ref f385)))
    (q387 : PySem.W.isFn K (.ref f385) = true)
    (l388 : K.lookup f385 = some ⟨oc388, od388, .func (PySem.W.fnOf "held_records" "Database.held_records" (defArgs s_Database_held_records) (defBody s_Database_held_records) (defScope s_Database_held_records) .none kV388 dc388 pm388 an388 cd388 ct388), sl388⟩)
    (c388 : PySem.W.codeIn K cd388 "Database.held_records" = true)
    (k388 : PySem.W.keepIn K (.ref f385) = true)
    (q390 : PySem.W.findIn K (.ref C315) "outer_records" = some (some (.ref f389)))
    (q391 : PySem.W.isFn K (.ref f389) = true)
    (l392 : K.lookup f389 = some ⟨oc392, od392, .func (PySem.W.fnOf "outer_records" "Database.outer_records" (defArgs s_Database_outer_records) (defBody s_Database_outer_records) (defScope s_Database_outer_records) .none kV392 dc392 pm392 an392 cd392 ct392), sl392⟩)
    (c392 : PySem.W.codeIn K cd392 "Database.outer_records" = true)
    (k392 : PySem.W.keepIn K (.ref f389) = true)
    (q394 : PySem.W.findIn K (.ref C315) "would_wait" = some (some (.ref f393)))
    (q395 : PySem.W.isFn K (.ref f393) = true)
    (l396 : K.lookup f393 = some ⟨oc396, od396, .func (PySem.W.fnOf "would_wait" "Database.would_wait" (defArgs s_Database_would_wait) (defBody s_Database_would_wait) (defScope s_Database_would_wait) .none kV396 dc396 pm396 an396 cd396 ct396), sl396⟩)
    (c396 : PySem.W.codeIn K cd396 "Database.would_wait" = true)
    (k396 : PySem.W.keepIn K (.ref f393) = true)
    (q398 : PySem.W.findIn K (.ref C315) "write" = some (some (.ref f397)))
    (q399 : PySem.W.isFn K (.ref f397) = true)
    (l400 : K.lookup f397 = some ⟨oc400, od400, .func (PySem.W.fnOf "write" "Database.write" (defArgs s_Database_write) (defBody s_Database_write) (defScope s_Database_write) .none kV400 dc400 pm400 an400 cd400 ct400), sl400⟩)
    (c400 : PySem.W.codeIn K cd400 "Database.write" = true)
    (k400 : PySem.W.keepIn K (.ref f397) = true)
    (q402 : PySem.W.findIn K (.ref C315) "__setitem__" = some (some (.ref f401)))
    (q403 : PySem.W.isFn K (.ref f401) = true)
    (l404 : K.lookup f401 = some ⟨oc404, od404, .func (PySem.W.fnOf "__setitem__" "Database.__setitem__" (defArgs s_DatabaseU_setitemU) (defBody s_DatabaseU_setitemU) (defScope s_DatabaseU_setitemU) .none kV404 dc404 pm404 an404 cd404 ct404), sl404⟩)
    (c404 : PySem.W.codeIn K cd404 "Database.__setitem__" = true)
    (k404 : PySem.W.keepIn K (.ref f401) = true)
    (q406 : PySem.W.findIn K (.ref C315) "kept_values" = some (some (.ref f405)))
    (q407 : PySem.W.isFn K (.ref f405) = true)
    (l408 : K.lookup f405 = some ⟨oc408, od408, .func (PySem.W.fnOf "kept_values" "Database.kept_values" (defArgs s_Database_kept_values) (defBody s_Database_kept_values) (defScope s_Database_kept_values) .none kV408 dc408 pm408 an408 cd408 ct408), sl408⟩)
    (c408 : PySem.W.codeIn K cd408 "Database.kept_values" = true)
    (k408 : PySem.W.keepIn K (.ref f405) = true)
    (q410 : PySem.W.findIn K (.ref C315) "fates" = some (some (.ref f409)))
    (q411 : PySem.W.isFn K (.ref f409) = true)
    (l412 : K.lookup f409 = some ⟨oc412, od412, .func (PySem.W.fnOf "fates" "Database.fates" (defArgs s_Database_fates) (defBody s_Database_fates) (defScope s_Database_fates) .none kV412 dc412 pm412 an412 cd412 ct412), sl412⟩)
    (c412 : PySem.W.codeIn K cd412 "Database.fates" = true)
    (k412 : PySem.W.keepIn K (.ref f409) = true)
    (q416 : PySem.W.findIn K (.ref C315) "is_open" = some (some (.ref p414)))
    (q417 : PySem.W.specialIn K (.ref p414) "__get__" = some (some (.builtin "property.__get__")))
    (q418 : PySem.W.takesIn K (.ref p414) = some true)
    (q419 : PySem.W.recIn K p414 "property" = some (.ref f413 :: rs415))
    (l420 : K.lookup f413 = some ⟨oc420, od420, .func (PySem.W.fnOf "is_open" "Database.is_open" (defArgs s_Database_is_open) (defBody s_Database_is_open) (defScope s_Database_is_open) .none kV420 dc420 pm420 an420 cd420 ct420), sl420⟩)
    (c420 : PySem.W.codeIn K cd420 "Database.is_open" = true)
    (k420 : PySem.W.keepIn K (.ref f413) = true)
    (q424 : PySem.W.findIn K (.ref C315) "is_doomed" = some (some (.ref p422)))
    (q425 : PySem.W.specialIn K (.ref p422) "__get__" = some (some (.builtin "property.__get__")))
    (q426 : PySem.W.takesIn K (.ref p422) = some true)
    (q427 : PySem.W.recIn K p422 "property" = some (.ref f421 :: rs423))
    (l428 : K.lookup f421 = some ⟨oc428, od428, .func (PySem.W.fnOf "is_doomed" "Database.is_doomed" (defArgs s_Database_is_doomed) (defBody s_Database_is_doomed) (defScope s_Database_is_doomed) .none kV428 dc428 pm428 an428 cd428 ct428), sl428⟩)
    (c428 : PySem.W.codeIn K cd428 "Database.is_doomed" = true)
    (k428 : PySem.W.keepIn K (.ref f421) = true)
    (q432 : PySem.W.findIn K (.ref C315) "reason" = some (some (.ref p430)))
    (q433 : PySem.W.specialIn K (.ref p430) "__get__" = some (some (.builtin "property.__get__")))
    (q434 : PySem.W.takesIn K (.ref p430) = some true)
    (q435 : PySem.W.recIn K p430 "property" = some (.ref f429 :: rs431))
    (l436 : K.lookup f429 = some ⟨oc436, od436, .func (PySem.W.fnOf "reason" "Database.reason" (defArgs s_Database_reason) (defBody s_Database_reason) (defScope s_Database_reason) .none kV436 dc436 pm436 an436 cd436 ct436), sl436⟩)
    (c436 : PySem.W.codeIn K cd436 "Database.reason" = true)
    (k436 : PySem.W.keepIn K (.ref f429) = true)
    (q440 : PySem.W.findIn K (.ref C315) "levels" = some (some (.ref p438)))
    (q441 : PySem.W.specialIn K (.ref p438) "__get__" = some (some (.builtin "property.__get__")))
    (q442 : PySem.W.takesIn K (.ref p438) = some true)
    (q443 : PySem.W.recIn K p438 "property" = some (.ref f437 :: rs439))
    (l444 : K.lookup f437 = some ⟨oc444, od444, .func (PySem.W.fnOf "levels" "Database.levels" (defArgs s_Database_levels) (defBody s_Database_levels) (defScope s_Database_levels) .none kV444 dc444 pm444 an444 cd444 ct444), sl444⟩)
    (c444 : PySem.W.codeIn K cd444 "Database.levels" = true)
    (k444 : PySem.W.keepIn K (.ref f437) = true)
    (q448 : PySem.W.findIn K (.ref C315) "depth" = some (some (.ref p446)))
    (q449 : PySem.W.specialIn K (.ref p446) "__get__" = some (some (.builtin "property.__get__")))
    (q450 : PySem.W.takesIn K (.ref p446) = some true)
    (q451 : PySem.W.recIn K p446 "property" = some (.ref f445 :: rs447))
    (l452 : K.lookup f445 = some ⟨oc452, od452, .func (PySem.W.fnOf "depth" "Database.depth" (defArgs s_Database_depth) (defBody s_Database_depth) (defScope s_Database_depth) .none kV452 dc452 pm452 an452 cd452 ct452), sl452⟩)
    (c452 : PySem.W.codeIn K cd452 "Database.depth" = true)
    (k452 : PySem.W.keepIn K (.ref f445) = true)
    (z453 : PySem.W.noSeq K C315 = true)
    (a455 : PySem.W.nsIn K mainGlobals "_law_pool" = some (some (.ref f454)))
    (l456 : K.lookup f454 = some ⟨oc456, od456, .func (PySem.W.fnOf "_law_pool" "_law_pool" (defArgs s_law_pool) (defBody s_law_pool) (defScope s_law_pool) .none kV456 dc456 pm456 an456 cd456 ct456), sl456⟩)
    (c456 : PySem.W.codeIn K cd456 "_law_pool" = true)
    (k456 : PySem.W.keepIn K (.ref f454) = true)
    (a458 : PySem.W.nsIn K mainGlobals "_law_draw" = some (some (.ref f457)))
    (l459 : K.lookup f457 = some ⟨oc459, od459, .func (PySem.W.fnOf "_law_draw" "_law_draw" (defArgs s_law_draw) (defBody s_law_draw) (defScope s_law_draw) .none kV459 dc459 pm459 an459 cd459 ct459), sl459⟩)
    (c459 : PySem.W.codeIn K cd459 "_law_draw" = true)
    (k459 : PySem.W.keepIn K (.ref f457) = true)
    (a461 : PySem.W.nsIn K mainGlobals "_law_word" = some (some (.ref f460)))
    (l462 : K.lookup f460 = some ⟨oc462, od462, .func (PySem.W.fnOf "_law_word" "_law_word" (defArgs s_law_word) (defBody s_law_word) (defScope s_law_word) .none kV462 dc462 pm462 an462 cd462 ct462), sl462⟩)
    (c462 : PySem.W.codeIn K cd462 "_law_word" = true)
    (k462 : PySem.W.keepIn K (.ref f460) = true)
    (a464 : PySem.W.nsIn K mainGlobals "_law_seen" = some (some (.ref f463)))
    (l465 : K.lookup f463 = some ⟨oc465, od465, .func (PySem.W.fnOf "_law_seen" "_law_seen" (defArgs s_law_seen) (defBody s_law_seen) (defScope s_law_seen) .none kV465 dc465 pm465 an465 cd465 ct465), sl465⟩)
    (c465 : PySem.W.codeIn K cd465 "_law_seen" = true)
    (k465 : PySem.W.keepIn K (.ref f463) = true)
    (a467 : PySem.W.nsIn K mainGlobals "_law_try" = some (some (.ref f466)))
    (l468 : K.lookup f466 = some ⟨oc468, od468, .func (PySem.W.fnOf "_law_try" "_law_try" (defArgs s_law_try) (defBody s_law_try) (defScope s_law_try) .none kV468 dc468 pm468 an468 cd468 ct468), sl468⟩)
    (c468 : PySem.W.codeIn K cd468 "_law_try" = true)
    (k468 : PySem.W.keepIn K (.ref f466) = true)
    (a470 : PySem.W.nsIn K mainGlobals "_law_inside" = some (some (.ref f469)))
    (l471 : K.lookup f469 = some ⟨oc471, od471, .func (PySem.W.fnOf "_law_inside" "_law_inside" (defArgs s_law_inside) (defBody s_law_inside) (defScope s_law_inside) .none kV471 dc471 pm471 an471 cd471 ct471), sl471⟩)
    (c471 : PySem.W.codeIn K cd471 "_law_inside" = true)
    (k471 : PySem.W.keepIn K (.ref f469) = true)
    (l472 : K.lookup f0 = some ⟨oc472, od472, .func (PySem.W.fnOf "law" "law" (defArgs s_law) (defBody s_law) (defScope s_law) .none kV472 dc472 pm472 an472 cd472 ct472), sl472⟩)
    (c472 : PySem.W.codeIn K cd472 "law" = true)
    (k472 : PySem.W.keepIn K (.ref f0) = true)
    (z473 : PySem.W.nsIn K mainGlobals "isinstance" = some none)
    (z474 : PySem.W.nsIn K mainGlobals "str" = some none)
    (z475 : PySem.W.nsIn K mainGlobals "len" = some none)
    (z476 : PySem.W.nsIn K mainGlobals "super" = some none)
    (z477 : PySem.W.nsIn K mainGlobals "sorted" = some none)
    (z478 : PySem.W.nsIn K mainGlobals "abs" = some none)
    (z479 : PySem.W.nsIn K mainGlobals "int" = some none)
    (z480 : PySem.W.nsIn K mainGlobals "range" = some none)
    (z481 : PySem.W.nsIn K mainGlobals "list" = some none)
    (z482 : PySem.W.nsIn K mainGlobals "repr" = some none)
    (z483 : PySem.W.nsIn K mainGlobals "max" = some none)
    (z484 : PySem.W.nsIn K mainGlobals "min" = some none)
    : ∃ fd : FuncData, (∀ (s : Shared) (v : Value), BindsTo s fd ⟨[v], []⟩ [("_law_script", v)]) ∧ ∀ base : Heap, K.In base → base.Ns mainGlobals mg → FnG P w K mg base CX0 9 fa fd ["_law_script"] (spLaw K) := by
  have e := hfa0.symm.trans (PySem.W.mg_of X G a0)
  cases e
  exact all_mk X G hfa0 a2 r3 s4 z5 z7 z9 z11 z13 z15 z17 z19 z21 l23 z37 r38 l40 c40 k40 a42 l43 c43 k43 z44 a46 a48 e51 e52 e53 e54 e55 e56 e57 e58 e59 e60 e61 e62 e63 e64 e65 e66 e67 e68 e69 e70 e71 e72 a74 e77 e78 e79 e80 e81 e82 e83 e84 e85 e86 e87 e88 e89 e90 e91 e92 e93 e94 e95 e96 e97 e98 a100 e103 e104 e105 e106 e107 e108 e109 e110 e111 e112 e113 e114 e115 e116 e117 e118 e119 e120 e121 e122 e123 e124 a126 e129 e130 e131 e132 e133 e134 e135 e136 e137 e138 e139 e140 e141 e142 e143 e144 e145 e146 e147 e148 e149 a151 e154 e155 e156 e157 e158 e159 e160 e161 e162 e163 e164 e165 e166 e167 e168 e169 e170 e171 e172 e173 a175 e178 e179 e180 e181 e182 e183 e184 e185 e186 e187 e188 e189 e190 e191 e192 e193 e194 e195 e196 e197 e198 e199 a201 e204 e205 e206 e207 e208 e209 e210 e211 e212 e213 e214 e215 e216 e217 e218 e219 e220 e221 e222 e223 e224 a226 e229 e230 e231 e232 e233 e234 e235 e236 e237 e238 e239 e240 e241 e242 e243 e244 e245 e246 e247 e248 e249 a251 e254 e255 e256 e257 e258 e259 e260 e261 e262 e263 e264 e265 e266 e267 e268 e269 e270 e271 e272 e273 e274 z275 z276 z277 z278 z279 z280 z281 z282 z283 a285 q286 q287 q288 q289 z290 z291 z292 z293 z294 q296 q297 q298 q299 l300 c300 k300 a302 q303 q304 q305 q306 z307 z308 q310 q311 q312 q313 l314 c314 k314 a316 q317 q318 q319 q320 z321 z322 z323 z324 z325 q327 q328 q329 q330 l331 c331 k331 q333 q334 l335 c335 k335 q337 q338 l339 c339 k339 q341 q342 l343 c343 k343 q345 q346 l347 c347 k347 q349 q350 l351 c351 k351 lT358 q360 q361 l362 c362 k362 q364 q365 l366 c366 k366 q368 q369 l370 c370 k370 lT377 z380 q382 q383 l384 c384 k384 q386 q387 l388 c388 k388 q390 q391 l392 c392 k392 q394 q395 l396 c396 k396 q398 q399 l400 c400 k400 q402 q403 l404 c404 k404 q406 q407 l408 c408 k408 q410 q411 l412 c412 k412 q416 q417 q418 q419 l420 c420 k420 q424 q425 q426 q427 l428 c428 k428 q432 q433 q434 q435 l436 c436 k436 q440 q441 q442 q443 l444 c444 k444 q448 q449 q450 q451 l452 c452 k452 z453 a455 l456 c456 k456 a458 l459 c459 k459 a461 l462 c462 k462 a464 l465 c465 k465 a467 l468 c468 k468 a470 l471 c471 k471 l472 c472 k472 z473 z474 z475 z476 z477 z478 z479 z480 z481 z482 z483 z484
end Ic
open PySem PySem.W PyProof.Rows
set_option maxRecDepth 100000 in
set_option maxHeartbeats 0 in
theorem PySem.Challenge.cw_innercommits_k09_whole_levels_undone_alo_holds : PySem.Challenge.rw_innercommits_k09_whole_levels_undone_alo.Holds := by
  w_on; o_law; k_head; (case hw => w_witness2)
  k_fill
  refine Ic.walk_ofBG (l := PySem.Challenge.rw_innercommits_k09_whole_levels_undone_alo) (n := 63) (k := 9) (x := "_law_script") (CX := fun _ => L2.CX0) (sp := fun w => Ic.spLaw _) rfl (by decide) rfl (by decide +kernel) ⟨rfl, by decide, by decide⟩ (fun w h Y => PySem.W.kIn_of Y) ?F (fun _ _ a ns hl _ _ hS => ⟨a, ns, rfl, hS, hl, fun _ => rfl⟩) (fun _ _ _ _ _ h => h)
  case F =>
    intro w mg fa h KX G hmg
    refine' Ic.all_mk' KX G hmg ?a0 ?a2 ?r3 ?s4 ?z5 ?z7 ?z9 ?z11 ?z13 ?z15 ?z17 ?z19 ?z21 ?l23 ?z37 ?r38 ?l40 ?c40 ?k40 ?a42 ?l43 ?c43 ?k43 ?z44 ?a46 ?a48 ?e51 ?e52 ?e53 ?e54 ?e55 ?e56 ?e57 ?e58 ?e59 ?e60 ?e61 ?e62 ?e63 ?e64 ?e65 ?e66 ?e67 ?e68 ?e69 ?e70 ?e71 ?e72 ?a74 ?e77 ?e78 ?e79 ?e80 ?e81 ?e82 ?e83 ?e84 ?e85 ?e86 ?e87 ?e88 ?e89 ?e90 ?e91 ?e92 ?e93 ?e94 ?e95 ?e96 ?e97 ?e98 ?a100 ?e103 ?e104 ?e105 ?e106 ?e107 ?e108 ?e109 ?e110 ?e111 ?e112 ?e113 ?e114 ?e115 ?e116 ?e117 ?e118 ?e119 ?e120 ?e121 ?e122 ?e123 ?e124 ?a126 ?e129 ?e130 ?e131 ?e132 ?e133 ?e134 ?e135 ?e136 ?e137 ?e138 ?e139 ?e140 ?e141 ?e142 ?e143 ?e144 ?e145 ?e146 ?e147 ?e148 ?e149 ?a151 ?e154 ?e155 ?e156 ?e157 ?e158 ?e159 ?e160 ?e161 ?e162 ?e163 ?e164 ?e165 ?e166 ?e167 ?e168 ?e169 ?e170 ?e171 ?e172 ?e173 ?a175 ?e178 ?e179 ?e180 ?e181 ?e182 ?e183 ?e184 ?e185 ?e186 ?e187 ?e188 ?e189 ?e190 ?e191 ?e192 ?e193 ?e194 ?e195 ?e196 ?e197 ?e198 ?e199 ?a201 ?e204 ?e205 ?e206 ?e207 ?e208 ?e209 ?e210 ?e211 ?e212 ?e213 ?e214 ?e215 ?e216 ?e217 ?e218 ?e219 ?e220 ?e221 ?e222 ?e223 ?e224 ?a226 ?e229 ?e230 ?e231 ?e232 ?e233 ?e234 ?e235 ?e236 ?e237 ?e238 ?e239 ?e240 ?e241 ?e242 ?e243 ?e244 ?e245 ?e246 ?e247 ?e248 ?e249 ?a251 ?e254 ?e255 ?e256 ?e257 ?e258 ?e259 ?e260 ?e261 ?e262 ?e263 ?e264 ?e265 ?e266 ?e267 ?e268 ?e269 ?e270 ?e271 ?e272 ?e273 ?e274 ?z275 ?z276 ?z277 ?z278 ?z279 ?z280 ?z281 ?z282 ?z283 ?a285 ?q286 ?q287 ?q288 ?q289 ?z290 ?z291 ?z292 ?z293 ?z294 ?q296 ?q297 ?q298 ?q299 ?l300 ?c300 ?k300 ?a302 ?q303 ?q304 ?q305 ?q306 ?z307 ?z308 ?q310 ?q311 ?q312 ?q313 ?l314 ?c314 ?k314 ?a316 ?q317 ?q318 ?q319 ?q320 ?z321 ?z322 ?z323 ?z324 ?z325 ?q327 ?q328 ?q329 ?q330 ?l331 ?c331 ?k331 ?q333 ?q334 ?l335 ?c335 ?k335 ?q337 ?q338 ?l339 ?c339 ?k339 ?q341 ?q342 ?l343 ?c343 ?k343 ?q345 ?q346 ?l347 ?c347 ?k347 ?q349 ?q350 ?l351 ?c351 ?k351 ?lT358 ?q360 ?q361 ?l362 ?c362 ?k362 ?q364 ?q365 ?l366 ?c366 ?k366 ?q368 ?q369 ?l370 ?c370 ?k370 ?lT377 ?z380 ?q382 ?q383 ?l384 ?c384 ?k384 ?q386 ?q387 ?l388 ?c388 ?k388 ?q390 ?q391 ?l392 ?c392 ?k392 ?q394 ?q395 ?l396 ?c396 ?k396 ?q398 ?q399 ?l400 ?c400 ?k400 ?q402 ?q403 ?l404 ?c404 ?k404 ?q406 ?q407 ?l408 ?c408 ?k408 ?q410 ?q411 ?l412 ?c412 ?k412 ?q416 ?q417 ?q418 ?q419 ?l420 ?c420 ?k420 ?q424 ?q425 ?q426 ?q427 ?l428 ?c428 ?k428 ?q432 ?q433 ?q434 ?q435 ?l436 ?c436 ?k436 ?q440 ?q441 ?q442 ?q443 ?l444 ?c444 ?k444 ?q448 ?q449 ?q450 ?q451 ?l452 ?c452 ?k452 ?z453 ?a455 ?l456 ?c456 ?k456 ?a458 ?l459 ?c459 ?k459 ?a461 ?l462 ?c462 ?k462 ?a464 ?l465 ?c465 ?k465 ?a467 ?l468 ?c468 ?k468 ?a470 ?l471 ?c471 ?k471 ?l472 ?c472 ?k472 ?z473 ?z474 ?z475 ?z476 ?z477 ?z478 ?z479 ?z480 ?z481 ?z482 ?z483 ?z484
    (case a0 => k_is)
    (case a2 => k_is)
    (case r3 => k_is)
    (case s4 => k_is)
    (case z5 => k_is)
    (case z7 => k_is)
    (case z9 => k_is)
    (case z11 => k_is)
    (case z13 => k_is)
    (case z15 => k_is)
    (case z17 => k_is)
    (case z19 => k_is)
    (case z21 => k_is)
    (case l23 => k_is)
    (case z37 => k_is)
    (case r38 => k_is)
    (case l40 => k_is)
    (case c40 => k_is)
    (case k40 => k_is)
    (case a42 => k_is)
    (case l43 => k_is)
    (case c43 => k_is)
    (case k43 => k_is)
    (case z44 => k_is)
    (case a46 => k_is)
    (case a48 => k_is)
    (case e51 => k_is)
    (case e52 => kernel_rfl)
    (case e53 => k_is)
    (case e54 => k_is)
    (case e55 => k_is)
    (case e56 => k_is)
    (case e57 => k_is)
    (case e58 => k_is)
    (case e59 => k_is)
    (case e60 => k_is)
    (case e61 => k_is)
    (case e62 => k_is)
    (case e63 => kernel_rfl)
    (case e64 => k_is)
    (case e65 => kernel_rfl)
    (case e66 => k_is)
    (case e67 => k_is)
    (case e68 => k_is)
    (case e69 => exact rfl)
    (case e70 => k_is)
    (case e71 => k_is)
    (case e72 => k_is)
    (case a74 => k_is)
    (case e77 => k_is)
    (case e78 => kernel_rfl)
    (case e79 => k_is)
    (case e80 => k_is)
    (case e81 => k_is)
    (case e82 => k_is)
    (case e83 => k_is)
    (case e84 => k_is)
    (case e85 => k_is)
    (case e86 => k_is)
    (case e87 => k_is)
    (case e88 => k_is)
    (case e89 => kernel_rfl)
    (case e90 => k_is)
    (case e91 => kernel_rfl)
    (case e92 => k_is)
    (case e93 => k_is)
    (case e94 => k_is)
    (case e95 => exact rfl)
    (case e96 => k_is)
    (case e97 => k_is)
    (case e98 => k_is)
    (case a100 => k_is)
    (case e103 => k_is)
    (case e104 => kernel_rfl)
    (case e105 => k_is)
    (case e106 => k_is)
    (case e107 => k_is)
    (case e108 => k_is)
    (case e109 => k_is)
    (case e110 => k_is)
    (case e111 => k_is)
    (case e112 => k_is)
    (case e113 => k_is)
    (case e114 => k_is)
    (case e115 => kernel_rfl)
    (case e116 => k_is)
    (case e117 => kernel_rfl)
    (case e118 => k_is)
    (case e119 => k_is)
    (case e120 => k_is)
    (case e121 => exact rfl)
    (case e122 => k_is)
    (case e123 => k_is)
    (case e124 => k_is)
    (case a126 => k_is)
    (case e129 => k_is)
    (case e130 => kernel_rfl)
    (case e131 => k_is)
    (case e132 => k_is)
    (case e133 => k_is)
    (case e134 => k_is)
    (case e135 => k_is)
    (case e136 => k_is)
    (case e137 => k_is)
    (case e138 => k_is)
    (case e139 => k_is)
    (case e140 => k_is)
    (case e141 => kernel_rfl)
    (case e142 => k_is)
    (case e143 => kernel_rfl)
    (case e144 => k_is)
    (case e145 => k_is)
    (case e146 => k_is)
    (case e147 => exact rfl)
    (case e148 => k_is)
    (case e149 => k_is)
    (case a151 => k_is)
    (case e154 => k_is)
    (case e155 => kernel_rfl)
    (case e156 => k_is)
    (case e157 => k_is)
    (case e158 => k_is)
    (case e159 => k_is)
    (case e160 => k_is)
    (case e161 => k_is)
    (case e162 => k_is)
    (case e163 => k_is)
    (case e164 => k_is)
    (case e165 => k_is)
    (case e166 => kernel_rfl)
    (case e167 => k_is)
    (case e168 => kernel_rfl)
    (case e169 => k_is)
    (case e170 => k_is)
    (case e171 => k_is)
    (case e172 => exact rfl)
    (case e173 => k_is)
    (case a175 => k_is)
    (case e178 => k_is)
    (case e179 => kernel_rfl)
    (case e180 => k_is)
    (case e181 => k_is)
    (case e182 => k_is)
    (case e183 => k_is)
    (case e184 => k_is)
    (case e185 => k_is)
    (case e186 => k_is)
    (case e187 => k_is)
    (case e188 => k_is)
    (case e189 => k_is)
    (case e190 => kernel_rfl)
    (case e191 => k_is)
    (case e192 => kernel_rfl)
    (case e193 => k_is)
    (case e194 => k_is)
    (case e195 => k_is)
    (case e196 => exact rfl)
    (case e197 => k_is)
    (case e198 => k_is)
    (case e199 => k_is)
    (case a201 => k_is)
    (case e204 => k_is)
    (case e205 => kernel_rfl)
    (case e206 => k_is)
    (case e207 => k_is)
    (case e208 => k_is)
    (case e209 => k_is)
    (case e210 => k_is)
    (case e211 => k_is)
    (case e212 => k_is)
    (case e213 => k_is)
    (case e214 => k_is)
    (case e215 => k_is)
    (case e216 => kernel_rfl)
    (case e217 => k_is)
    (case e218 => kernel_rfl)
    (case e219 => k_is)
    (case e220 => k_is)
    (case e221 => k_is)
    (case e222 => exact rfl)
    (case e223 => k_is)
    (case e224 => k_is)
    (case a226 => k_is)
    (case e229 => k_is)
    (case e230 => kernel_rfl)
    (case e231 => k_is)
    (case e232 => k_is)
    (case e233 => k_is)
    (case e234 => k_is)
    (case e235 => k_is)
    (case e236 => k_is)
    (case e237 => k_is)
    (case e238 => k_is)
    (case e239 => k_is)
    (case e240 => k_is)
    (case e241 => kernel_rfl)
    (case e242 => k_is)
    (case e243 => kernel_rfl)
    (case e244 => k_is)
    (case e245 => k_is)
    (case e246 => k_is)
    (case e247 => exact rfl)
    (case e248 => k_is)
    (case e249 => k_is)
    (case a251 => k_is)
    (case e254 => k_is)
    (case e255 => kernel_rfl)
    (case e256 => k_is)
    (case e257 => k_is)
    (case e258 => k_is)
    (case e259 => k_is)
    (case e260 => k_is)
    (case e261 => k_is)
    (case e262 => k_is)
    (case e263 => k_is)
    (case e264 => k_is)
    (case e265 => k_is)
    (case e266 => kernel_rfl)
    (case e267 => k_is)
    (case e268 => kernel_rfl)
    (case e269 => k_is)
    (case e270 => k_is)
    (case e271 => k_is)
    (case e272 => exact rfl)
    (case e273 => k_is)
    (case e274 => k_is)
    (case z275 => kernel_rfl)
    (case z276 => kernel_rfl)
    (case z277 => kernel_rfl)
    (case z278 => kernel_rfl)
    (case z279 => kernel_rfl)
    (case z280 => kernel_rfl)
    (case z281 => kernel_rfl)
    (case z282 => kernel_rfl)
    (case z283 => kernel_rfl)
    (case a285 => k_is)
    (case q286 => k_is)
    (case q287 => k_is)
    (case q288 => k_is)
    (case q289 => k_is)
    (case z290 => k_is)
    (case z291 => k_is)
    (case z292 => k_is)
    (case z293 => k_is)
    (case z294 => k_is)
    (case q296 => k_is)
    (case q297 => k_is)
    (case q298 => k_is)
    (case q299 => k_is)
    (case l300 => k_is)
    (case c300 => k_is)
    (case k300 => k_is)
    (case a302 => k_is)
    (case q303 => k_is)
    (case q304 => k_is)
    (case q305 => k_is)
    (case q306 => k_is)
    (case z307 => k_is)
    (case z308 => k_is)
    (case q310 => k_is)
    (case q311 => k_is)
    (case q312 => k_is)
    (case q313 => k_is)
    (case l314 => k_is)
    (case c314 => k_is)
    (case k314 => k_is)
    (case a316 => k_is)
    (case q317 => k_is)
    (case q318 => k_is)
    (case q319 => k_is)
    (case q320 => k_is)
    (case z321 => k_is)
    (case z322 => k_is)
    (case z323 => k_is)
    (case z324 => k_is)
    (case z325 => k_is)
    (case q327 => k_is)
    (case q328 => k_is)
    (case q329 => k_is)
    (case q330 => k_is)
    (case l331 => k_is)
    (case c331 => k_is)
    (case k331 => k_is)
    (case q333 => k_is)
    (case q334 => k_is)
    (case l335 => k_is)
    (case c335 => k_is)
    (case k335 => k_is)
    (case q337 => k_is)
    (case q338 => k_is)
    (case l339 => k_is)
    (case c339 => k_is)
    (case k339 => k_is)
    (case q341 => k_is)
    (case q342 => k_is)
    (case l343 => k_is)
    (case c343 => k_is)
    (case k343 => k_is)
    (case q345 => k_is)
    (case q346 => k_is)
    (case l347 => k_is)
    (case c347 => k_is)
    (case k347 => k_is)
    (case q349 => k_is)
    (case q350 => k_is)
    (case l351 => k_is)
    (case c351 => k_is)
    (case k351 => k_is)
    (case lT358 => k_is)
    (case q360 => k_is)
    (case q361 => k_is)
    (case l362 => k_is)
    (case c362 => k_is)
    (case k362 => k_is)
    (case q364 => k_is)
    (case q365 => k_is)
    (case l366 => k_is)
    (case c366 => k_is)
    (case k366 => k_is)
    (case q368 => k_is)
    (case q369 => k_is)
    (case l370 => k_is)
    (case c370 => k_is)
    (case k370 => k_is)
    (case lT377 => k_is)
    (case z380 => k_is)
    (case q382 => k_is)
    (case q383 => k_is)
    (case l384 => k_is)
    (case c384 => k_is)
    (case k384 => k_is)
    (case q386 => k_is)
    (case q387 => k_is)
    (case l388 => k_is)
    (case c388 => k_is)
    (case k388 => k_is)
    (case q390 => k_is)
    (case q391 => k_is)
    (case l392 => k_is)
    (case c392 => k_is)
    (case k392 => k_is)
    (case q394 => k_is)
    (case q395 => k_is)
    (case l396 => k_is)
    (case c396 => k_is)
    (case k396 => k_is)
    (case q398 => k_is)
    (case q399 => k_is)
    (case l400 => k_is)
    (case c400 => k_is)
    (case k400 => k_is)
    (case q402 => k_is)
    (case q403 => k_is)
    (case l404 => k_is)
    (case c404 => k_is)
    (case k404 => k_is)
    (case q406 => k_is)
    (case q407 => k_is)
    (case l408 => k_is)
    (case c408 => k_is)
    (case k408 => k_is)
    (case q410 => k_is)
    (case q411 => k_is)
    (case l412 => k_is)
    (case c412 => k_is)
    (case k412 => k_is)
    (case q416 => k_is)
    (case q417 => k_is)
    (case q418 => k_is)
    (case q419 => k_is)
    (case l420 => k_is)
    (case c420 => k_is)
    (case k420 => k_is)
    (case q424 => k_is)
    (case q425 => k_is)
    (case q426 => k_is)
    (case q427 => k_is)
    (case l428 => k_is)
    (case c428 => k_is)
    (case k428 => k_is)
    (case q432 => k_is)
    (case q433 => k_is)
    (case q434 => k_is)
    (case q435 => k_is)
    (case l436 => k_is)
    (case c436 => k_is)
    (case k436 => k_is)
    (case q440 => k_is)
    (case q441 => k_is)
    (case q442 => k_is)
    (case q443 => k_is)
    (case l444 => k_is)
    (case c444 => k_is)
    (case k444 => k_is)
    (case q448 => k_is)
    (case q449 => k_is)
    (case q450 => k_is)
    (case q451 => k_is)
    (case l452 => k_is)
    (case c452 => k_is)
    (case k452 => k_is)
    (case z453 => k_is)
    (case a455 => k_is)
    (case l456 => k_is)
    (case c456 => k_is)
    (case k456 => k_is)
    (case a458 => k_is)
    (case l459 => k_is)
    (case c459 => k_is)
    (case k459 => k_is)
    (case a461 => k_is)
    (case l462 => k_is)
    (case c462 => k_is)
    (case k462 => k_is)
    (case a464 => k_is)
    (case l465 => k_is)
    (case c465 => k_is)
    (case k465 => k_is)
    (case a467 => k_is)
    (case l468 => k_is)
    (case c468 => k_is)
    (case k468 => k_is)
    (case a470 => k_is)
    (case l471 => k_is)
    (case c471 => k_is)
    (case k471 => k_is)
    (case l472 => k_is)
    (case c472 => k_is)
    (case k472 => k_is)
    (case z473 => k_is)
    (case z474 => k_is)
    (case z475 => k_is)
    (case z476 => k_is)
    (case z477 => k_is)
    (case z478 => k_is)
    (case z479 => k_is)
    (case z480 => k_is)
    (case z481 => k_is)
    (case z482 => k_is)
    (case z483 => k_is)
    (case z484 => k_is)
#print axioms PySem.Challenge.cw_innercommits_k09_whole_levels_undone_alo_holds
