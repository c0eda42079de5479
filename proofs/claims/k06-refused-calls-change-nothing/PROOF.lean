import PyProof.Rows.All
import Wide.All
import OpenK.AllK
import Wide.FinOn
import HandS.ForMost
import HandS.EndBits
import HandS.Wide
import HandS.IsInst
import HandS.Style
import HandS.Walk
import HandS.ClsMeth
import HandS.Conv
import HandS.ForExc
import HandS.ExcInit
import HandS.CallSlots
import HandS.Defaults
import HandS.ExcField
import HandS.Property
import HandS.WordsExc
import HandS.TryMany
import KE.KExcSuper
import HandS.HotCalls
import HandS.Dict
import HandS.Set
import HandS.SetBool
import HandS.SetFor
import HandS.Strs
import HandS.More
import PyProof.Rows.SortShellAny
import PyProof.Rows.SetFrom
import PyProof.Rows.SetObj
import HandS.TryOnly
import HandS.GenList
import HandS.GenYield
import HandS.GenCall
import KE.KDictSum
import HandS.DictComp
import HandS.Codes
import PySem.Challenge.RW_innercommits_k06_refused_calls_change_no

set_option Elab.async false
set_option linter.all false
set_option maxRecDepth 100000
set_option maxHeartbeats 4000000
namespace Ic
open PySem L2
def top (i : Nat) : Stmt := PySem.Challenge.pw_innercommits_k06_refused_calls_change_no.main.body.getD i (.Pass ⟨0, 0, 0, 0⟩)
abbrev P : Program := PySem.Challenge.pw_innercommits_k06_refused_calls_change_no
/-! ### heaps -/
theorem sz_le {n m : Nat} (h : Nat.ble n m = true) : n ≤ m := Nat.le_of_ble_eq_true h
theorem sz_lt {n m : Nat} (h : Nat.blt n m = true) : n < m := Nat.le_of_ble_eq_true h
theorem upd_old {H : Hp} {p a : Addr} {o u : HO} (h : H a = some u) (hp : H p = none) : upd H p o a = some u := by
  rw [upd_ne (ne_of_none h hp)]; exact h
theorem upd_oth {H : Hp} {p a : Addr} {o u : HO} (hn : a ≠ p) (h : H a = some u) : upd H p o a = some u := by
  rw [upd_ne hn]; exact h
theorem cmul_l {i j : Int} (h : (decide (-(2 ^ 64) < i) && decide (i < 2 ^ 64)) = true) : CMul i j := by
  simp only [Bool.and_eq_true, decide_eq_true_eq] at h
  exact .inl h
theorem cmul_r {i j : Int} (h : (decide (-(2 ^ 64) < j) && decide (j < 2 ^ 64)) = true) : CMul i j := by
  simp only [Bool.and_eq_true, decide_eq_true_eq] at h
  exact .inr h
theorem cpow_lit {i j : Int} (h : (decide (0 ≤ j) && decide (j ≤ 1000000) && decide (i.natAbs < 2 ^ 64)) = true) : CPow i j := by
  simp only [Bool.and_eq_true, decide_eq_true_eq] at h
  exact ⟨h.1.1, h.1.2, h.2⟩
theorem cdiv_lit {i j : Int} (h : (decide (0 < j) && decide (j < 1073741824)) = true) : CDivW i j := by
  simp only [Bool.and_eq_true, decide_eq_true_eq] at h
  exact wide_div (b := 40) h.1 (by omega) (by decide) (by decide)
theorem none_upd {H : Hp} {p b : Addr} {o : HO} (h : upd H p o b = none) : b ≠ p ∧ H b = none := by
  by_cases e : b = p
  · rw [e, upd_same] at h; cases h
  · exact ⟨e, by rw [upd_ne e] at h; exact h⟩
/-- all that was tracked, but S, is as it was -/
def Kp (S : Addr → Prop) (H H' : Hp) : Prop := ∀ b u, H b = some u → ¬ S b → H' b = some u
theorem Kp.refl {S : Addr → Prop} {H : Hp} : Kp S H H := fun _ _ h _ => h
theorem Kp.trans {S : Addr → Prop} {H H1 H2 : Hp} (a : Kp S H H1) (b : Kp S H1 H2) : Kp S H H2 := fun c u h n => b c u (a c u h n) n
theorem Kp.new {S : Addr → Prop} {H H1 : Hp} {p : Addr} {o : HO} (a : Kp S H H1) (h : H1 p = none) : Kp S H (upd H1 p o) := fun c u e n => upd_old (a c u e n) h
theorem Kp.set {S : Addr → Prop} {H H1 : Hp} {p : Addr} {o : HO} (a : Kp S H H1) (h : S p) : Kp S H (upd H1 p o) := fun c u e n => upd_oth (fun z => n (z ▸ h)) (a c u e n)
theorem Kp.set1 {H H1 : Hp} {p : Addr} {o : HO} (a : Kp (fun b => b = p) H H1) : Kp (fun b => b = p) H (upd H1 p o) := a.set rfl
/-- p is none of H's -/
theorem Kp.fresh {S : Addr → Prop} {H H1 : Hp} {p : Addr} {o : HO} (a : Kp S H H1) (h : H p = none) : Kp S H (upd H1 p o) := fun c u e n => upd_oth (ne_of_none e h) (a c u e n)
theorem Kp.mono {S S' : Addr → Prop} {H H1 : Hp} (a : Kp S H H1) (h : ∀ b, S b → S' b) : Kp S' H H1 := fun c u e n => a c u e fun z => n (h c z)
theorem Kp.same {S : Addr → Prop} {H H1 H2 : Hp} (a : Same H H1) (b : Kp S H1 H2) (n : ∀ c, S c → H c = none) : Same H H2 := fun c u h => b c u (a c u h) fun z => by
  rw [n c z] at h; cases h
theorem Kp.of_same {S : Addr → Prop} {H H1 : Hp} (a : Same H H1) : Kp S H H1 := fun c u h _ => a c u h
theorem _root_.L2.Same.new {H H1 : Hp} {p : Addr} {o : HO} (a : Same H H1) (h : H1 p = none) : Same H (upd H1 p o) := fun c u e => upd_old (a c u e) h
theorem _root_.L2.Same.frsh {H H1 : Hp} {p : Addr} {o : HO} (a : Same H H1) (h : H p = none) : Same H (upd H1 p o) := fun c u e => upd_oth (ne_of_none e h) (a c u e)
theorem tyV_lst {K : PySem.W.Frag} {H : Hp} {p : Addr} {xs : List V} (h : SqL K H p xs) : tyV K "list" (.ref p) H := .inl ⟨rfl, xs, h⟩
class RdTy (α : Type) : Prop
instance : RdTy V := ⟨⟩
instance : RdTy Int := ⟨⟩
instance : RdTy Nat := ⟨⟩
instance : RdTy Bool := ⟨⟩
instance : RdTy Str := ⟨⟩
instance : RdTy HO := ⟨⟩
instance : RdTy Value := ⟨⟩
instance : RdTy Obj := ⟨⟩
instance {α : Type} : RdTy (List α) := ⟨⟩
instance {α : Type} : RdTy (Array α) := ⟨⟩
instance {α β : Type} : RdTy (Sum α β) := ⟨⟩
theorem exI {α : Type} [RdTy α] {p : α → Prop} (w : α) (h : p w) : Exists p := ⟨w, h⟩
/-! ### the pool -/
def PoolO (o : HO) (c : Nat) : Prop := ∃ a b n : Int, o = .lst [.int a, .int b, .int n] ∧ 0 ≤ a ∧ 0 ≤ b ∧ b < 2 ^ 62 ∧ 0 ≤ n ∧ n ≤ c
def PoolAt (H : Hp) (p : Addr) (c : Nat) : Prop := ∃ o, H p = some o ∧ PoolO o c
theorem PoolO.mono {o : HO} {c d : Nat} (h : PoolO o c) (l : c ≤ d) : PoolO o d := by
  obtain ⟨a, b, n, e, h1, h2, h3, h4, h5⟩ := h
  exact ⟨a, b, n, e, h1, h2, h3, h4, by omega⟩
def spPool (K : PySem.W.Frag) : Sp := fun vs H Q _ => ∃ (a : Addr) (ns : List Int) (i : Nat), vs = [.ref a, .int (i : Int)] ∧ SqL K H a (ns.map V.int) ∧ i < 1000 ∧
  ∀ p o, H p = none → PoolO o 0 → Q (.ref p) (upd H p o)
def spDraw : Sp := fun vs H Q _ => ∃ (p : Addr) (m : Int) (c : Nat) (o : HO), vs = [.ref p, .int m] ∧ H p = some o ∧ PoolO o c ∧ 0 < m ∧ m < 2 ^ 200 ∧ c < 2 ^ 40 ∧
  ∀ r o', 0 ≤ r → r < m → PoolO o' (c + 1) → Q (.int r) (upd H p o')
local macro_rules | `(tactic| walk_at "hp") => `(tactic| first | with_reducible assumption | with_reducible exact upd_same | (with_reducible apply upd_old; (focus (walk_at "hp")); (focus with_reducible assumption)) | (with_reducible apply upd_oth; (focus (first | with_reducible assumption | (with_reducible apply Ne.symm; with_reducible assumption))); walk_at "hp"))
local macro_rules | `(tactic| walk_at "sq") => `(tactic| first | with_reducible assumption | (with_reducible apply SqL.of; walk_at "hp") | (with_reducible apply SqT.of; walk_at "hp"))
local macro_rules | `(tactic| walk_at "side") => `(tactic| first | with_reducible assumption | exact ⟨_, rfl⟩ | walk_at "hp" | walk_at "sq" | (with_reducible apply tyV_lst; walk_at "sq") | (with_reducible apply Or.inl; walk_at "sq") | (with_reducible apply Or.inr; walk_at "sq") | with_reducible exact cmul_l (by decide) | with_reducible exact cmul_r (by decide) | with_reducible exact cpow_lit (by decide) | with_reducible exact cdiv_lit (by decide) | decide | exact sz_le rfl | exact sz_lt rfl | omega)
local macro_rules | `(tactic| walk_at "kp") => `(tactic| first | with_reducible assumption | with_reducible exact Kp.refl | (with_reducible apply Kp.set1; walk_at "kp") | (with_reducible apply Kp.new; (focus (walk_at "kp")); (focus with_reducible assumption)) | (with_reducible apply Kp.fresh; (focus (walk_at "kp")); (focus with_reducible assumption)))
local macro_rules | `(tactic| walk_at "rd1") => `(tactic| first
  | refine And.intro rfl ?_
  | apply exI
  | (refine Or.inl ?_; apply exI; refine And.intro rfl ?_)
  | (refine Or.inr ?_; apply exI; refine And.intro rfl ?_)
  | (refine And.intro ?_ ?_; (focus (walk_at "side"))))
local macro_rules | `(tactic| walk_at "rd") => `(tactic| repeat (walk_at "rd1"))
/-! ### further rules: a staticmethod called off its class, list of a text -/
/-- C.m is a staticmethod: its record at p, its def at f -/
structure SMet (K : PySem.W.Frag) (C : Addr) (mc : Value) (m : Str) (p f : Addr) : Prop where
  at_ : PySem.W.findCls K (.ref C) mc m = some (.get (.builtin "staticmethod.__get__") (.ref p) .none (.ref C))
  rc : ∃ rest, PySem.W.recIn K p "staticmethod" = some (.ref f :: rest)
def tSMeth (C : Addr) (sp : Sp) (dvs : List V) (E : XK) (ta : TE) (t : TA) : TE := fun σ H Q => ta σ H fun x H1 => x = .ref C ∧ t σ H1 fun vs H2 => sp (vs ++ dvs) H2 Q E
theorem pe_smeth {X : Cx} {CX : CXT} {k : Nat} {C p f : Addr} {fd : FuncData} {ps : List Str} {ds : List Value} {dvs : List V} {mc : Value} {sp : Sp} {E : XK} {o e : Expr} {es : List Expr} {m : Str} {pos apos : Pos} {ta : TE} {t : TA} {pl : Sem Bool}
    (he : PE X o ta) (r : ClX.CRead X.K C mc) (c : SMet X.K C mc m p f) (F : FnOk X.prog X.w X.K X.mg X.base CX k f fd ps sp) (hr : Room k X.A) (hk : PySem.W.keepIn X.K (.ref f) = true) (hb : Binds X.K fd ps ds) (hd : Vals dvs ds) (hx : Passes CX X E) (ha : PA X (e :: es) t)
    (hst : starEach (e :: es) X.env = (false, eval e X.env) :: starEach es X.env := by rfl) (hpl : (backTo pos (starEach es X.env)).any (·.1) = false := by rfl)
    (ht : eval (.Call (.Attribute o m apos) (e :: es) [] pos) X.env = (do
      let ov ← eval o X.env
      standAt apos.atName
      let (f, first) ← holding [ov] (getMethod ov m pl)
      callWith pos f first (backTo pos (starEach (e :: es) X.env)) (backToKw pos (keywordEach [] X.env))) := by rfl) :
    PE X (.Call (.Attribute o m apos) (e :: es) [] pos) (tSMeth C sp dvs E ta t) := by
  refine ⟨fun pins s σ H Q I h => ?_⟩
  refine PySem.W.methodCall_KW (pl := pl) (thn (he.run pins s σ H _ I h) fun u s1 ⟨x, H1, I1, rx, ex, q⟩ => ?_) ht
  subst ex
  obtain rfl : u = Value.ref C := rx
  obtain ⟨rest, hp⟩ := c.rc
  refine PySem.W.method_cls I1.kIn r.ga (PySem.W.cls_bind I1.kIn r.rd c.at_ ?_)
  refine wpAny_call (PySem.W.sm_get (s := { s1 with toks := s1.toks + 1 }) I1.kIn hp (PySem.W.handed_on rfl ?_))
  have I2 := I1.tok (s1.toks + 1)
  refine PySem.W.callWith_K (h₀ := X.base) (first := []) I2.ok.mod.kin hk (thn (ha.run pos pins _ σ H1 _ I2 q) fun us s3 ⟨vs, H2, I3, rv, q2⟩ => ⟨I3.kIn, ?_⟩) hst hpl
  exact run_fn F hr hb hd hx I3 rv q2
theorem call_list_text {X : Cx} (hc : X.calm = true) : CallR X (.type "list") (fun xs H Q => ∃ z : Str, xs = [.str z] ∧ z.length ≤ sizeLine ∧ ∀ l, H l = none → Q (.ref l) (upd H l (.lst (z.cps.toList.map fun c => .str ⟨#[c]⟩)))) := by
  intro pins s σ H xs us Q I r h
  obtain ⟨z, rfl, hz, q⟩ := h
  obtain ⟨u, rfl, t, rfl⟩ := vals1 r
  refine call_list_str (I.ok.hd hc) z t (fun h' tk acc c' kp e it => ?_) hz
  have hv : Vals (z.cps.toList.map fun c => V.str ⟨#[c]⟩) acc.toList := by
    refine vals_of_at (by rw [List.length_map, Array.length_toList, Array.length_toList, it.1]) fun j x u e1 e2 => ?_
    rw [Array.getElem?_toList] at e2
    obtain ⟨c, tk, hc1, rfl⟩ := it.2 j u e2
    rw [List.getElem?_map, Array.getElem?_toList, hc1] at e1
    cases e1
    exact ⟨tk, rfl⟩
  refine ⟨.ref s.heap.objs.size, _, I.laid (o := .lst (z.cps.toList.map fun c => V.str ⟨#[c]⟩)) (t' := tk) kp (Nat.le_refl _) ?_, rfl, q _ (I.hok.fresh (Nat.le_refl _))⟩
  exact ⟨by rw [List.length_map, Array.length_toList]; exact hz, acc.toList, c', hv, by simpa using e⟩
/-! ### data: == of lists and tuples -/
theorem eqvAll_nil {ds : List PyData} : PyData.eqvAll ds [] = ds.isEmpty := by
  cases ds <;> rfl
def asc (z : Str) : Prop := ∀ c ∈ z.cps.toList, c < 128
theorem asc_ok {z : Str} (h : asc z) : PyData.strOk z = true := by
  unfold PyData.strOk
  rw [Array.all_eq_true]
  intro i hi
  have := h z.cps[i] (by rw [Array.mem_toList_iff]; exact Array.getElem_mem hi)
  simp; omega
theorem dp_strs {K : PySem.W.Frag} {H : Hp} : ∀ ys : List Str, DpAll K H (ys.map V.str) (ys.map PyData.str)
  | [] => .nil
  | y :: r => .cons (.str y) (dp_strs r)
theorem lay_strs : ∀ {ys : List Str}, (∀ y ∈ ys, asc y) → PyData.canLayAll0 (ys.map PyData.str) = true
  | [], _ => rfl
  | y :: r, h => by
    show (PyData.strOk y && PyData.canLayAll0 (r.map PyData.str)) = true
    rw [asc_ok (h y List.mem_cons_self), lay_strs fun z hz => h z (List.mem_cons_of_mem _ hz)]; rfl
theorem depth_strs : ∀ ys : List Str, PyData.depthAll (ys.map PyData.str) = 0
  | [] => rfl
  | y :: r => by
    show max 0 (PyData.depthAll (r.map PyData.str)) = 0
    rw [depth_strs r]; rfl
theorem shaped_strs {ys : List Str} (h : ∀ y ∈ ys, asc y) : SeqAt.shaped (.list (ys.map PyData.str)) = true := by
  show (PyData.canLayAll0 (ys.map PyData.str) && decide (PyData.depthAll (ys.map PyData.str) + 1 ≤ 64)) = true
  rw [lay_strs h, depth_strs]; rfl
/-! ### letters -/
def Lets (cs : List Nat) : Prop := ∀ c ∈ cs, 97 ≤ c ∧ c ≤ 122
def chr1 (c : Nat) : Str := ⟨#[c]⟩
structure IsWord (w : Str) : Prop where
  lo : 1 ≤ w.cps.toList.length
  hi : w.cps.toList.length ≤ 8
  al : Lets w.cps.toList
def alpha : Str := "abcdefghijklmnopqrstuvwxyz"
theorem alpha_all : ∀ n : Nat, n < 26 → alpha.cps.toList[n]? = some (97 + n) := by
  have h : (List.range 26).all (fun n => decide (alpha.cps.toList[n]? = some (97 + n))) = true := by decide +kernel
  intro n hn
  exact of_decide_eq_true (List.all_eq_true.mp h n (List.mem_range.mpr hn))
theorem alpha_at {r : Int} (h0 : 0 ≤ r) (h1 : r < 26) : atI alpha.cps.toList r = some (97 + r.toNat) := by
  have e : ((r.toNat : Nat) : Int) = r := by omega
  have h := atI_nat (alpha_all r.toNat (by omega))
  rw [e] at h
  exact h
theorem join_chr : ∀ cs : List Nat, Txt.join (Str.ofString "") (cs.map chr1) = ⟨cs.toArray⟩ := by
  intro cs
  show Builtin.Str.glued (Str.ofString "") (cs.map chr1) = _
  rw [StrLaws.glued_eq_join]
  have e0 : (Str.ofString "") = Str.empty := by decide +kernel
  rw [e0]
  induction cs with
  | nil => rfl
  | cons c r ih =>
    cases r with
    | nil => rfl
    | cons b r =>
      show chr1 c ++ Str.empty ++ Str.join Str.empty ((b :: r).map chr1) = _
      rw [ih]
      show (⟨(#[c] ++ #[]) ++ (b :: r).toArray⟩ : Str) = ⟨(c :: b :: r).toArray⟩
      simp
theorem sum_chr : ∀ cs : List Nat, ((cs.map chr1).map (·.length)).sum = cs.length
  | [] => rfl
  | c :: r => by
    show 1 + ((r.map chr1).map (·.length)).sum = r.length + 1
    rw [sum_chr r]; omega
theorem alpha_len : alpha.length ≤ sizeLine := by decide +kernel
/-- [letters[draw(pool, 26)] for k in range(n)] -/
theorem lc_letters {n i0 i1 ik : Nat} {σ : St} {H1 : Hp} {D p : Addr} {o : HO} {c : Nat} {Qd : Hp → Prop} (hD : H1 D = none) (hp : H1 p = some o) (hc : PoolO o c) (hb : c + n < 2 ^ 40) (hn : n < 1000000)
    (s0 : σ[i0]? = some (some (.ref p))) (s1 : σ[i1]? = some (some (.str alpha))) (n0 : i0 ≠ ik) (n1 : i1 ≠ ik)
    (q : ∀ H' cs o', cs.length = n → Lets cs → Kp (fun b => b = p) H1 H' → H' p = some o' → PoolO o' (c + n) → H' D = some (.lst ((cs.map chr1).map V.str)) → Qd H') :
    ∃ W : Nat → Nat → Hp → Prop, (∃ m, W 0 m (upd H1 D (.lst []))) ∧ ∀ i m H, W i m H →
      ((Itr 0 n).stop i H ∧ Qd H) ∨ ((Itr 0 n).go i H ∧ ∃ Nx : Hp → Prop, (∀ H', Nx H' → ∃ m', m' < m ∧ W (i + 1) m' H') ∧ ∀ x H', (Itr 0 n).yld i H x H' → gName ik x (wipe σ [ik]) H' fun σ2 H2 => wipe σ2 [ik] = wipe σ [ik] ∧ tYes σ2 H2 fun b H3 =>
        if b = true then tOp rIxS (tVar i1) (tCall spDraw [] E0 (tCons (tVar i0) (tCons (tC (.int 26)) tNil))) σ2 H3 fun y H4 => ∃ acc, H4 D = some (.lst acc) ∧ acc.length < sizeLine ∧ Nx (upd H4 D (.lst (acc ++ [y]))) else Nx H3) := by
  have npD : p ≠ D := ne_of_none hp hD
  have w0 : ∀ v, ((wipe σ [ik]).set ik (some v))[i0]? = some (some (.ref p)) := fun v => by
    rw [List.getElem?_set_ne (Ne.symm n0), wipe_out (by simp [n0])]; exact s0
  have w1 : ∀ v, ((wipe σ [ik]).set ik (some v))[i1]? = some (some (.str alpha)) := fun v => by
    rw [List.getElem?_set_ne (Ne.symm n1), wipe_out (by simp [n1])]; exact s1
  refine lc_range (fun i H => ∃ cs o', cs.length = i ∧ Lets cs ∧ Kp (fun b => b = p) H1 H ∧ H p = some o' ∧ PoolO o' (c + i) ∧ H D = some (.lst ((cs.map chr1).map V.str))) ?_ ?_ ?_
  · exact ⟨[], o, rfl, (fun _ h => nomatch h), Kp.refl.new hD, upd_old hp hD, hc, upd_same⟩
  · rintro i H hi ⟨cs, o', e1, e2, e3, e4, e5, e6⟩
    refine ⟨?_, ?_⟩
    · show wipe ((wipe σ [ik]).set ik _) [ik] = wipe σ [ik]
      show (((σ.set ik none).set ik _).set ik none) = σ.set ik none
      rw [List.set_set, List.set_set]
    · refine ⟨_, w1 _, _, w0 _, p, 26, c + i, o', rfl, e4, e5, by decide, by decide, by omega, fun r o2 r0 r1 h2 => ?_⟩
      refine ⟨alpha, r, _, rfl, rfl, alpha_len, alpha_at r0 r1, (cs.map chr1).map V.str, upd_oth (Ne.symm npD) e6, ?_, ?_⟩
      · rw [List.length_map, List.length_map, e1, sizeLine_eq]; omega
      · refine ⟨cs ++ [97 + r.toNat], o2, ?_, ?_, ?_, ?_, h2, ?_⟩
        · rw [List.length_append, e1]; rfl
        · intro x hx
          rcases List.mem_append.mp hx with h | h
          · exact e2 x h
          · rw [List.mem_singleton] at h
            subst h
            omega
        · exact (e3.set rfl).fresh hD
        · exact upd_oth npD upd_same
        · rw [upd_same, List.map_append, List.map_append]; rfl
  · rintro H ⟨cs, o', e1, e2, e3, e4, e5, e6⟩
    exact q H cs o' e1 e2 e3 e4 e5 e6
def spWord : Sp := fun vs H Q _ => ∃ (p : Addr) (c : Nat) (o : HO), vs = [.ref p] ∧ H p = some o ∧ PoolO o c ∧ c < 2 ^ 39 ∧
  ∀ w o' H', IsWord w → PoolO o' (c + 9) → H' p = some o' → Kp (fun b => b = p) H H' → Q (.str w) H'
/-! ### words -/
def okC (c : Nat) : Bool := decide (97 ≤ c) && decide (c ≤ 122)
def wordS (z : Str) : Bool := decide (1 ≤ z.length) && decide (z.length ≤ 8) && z.cps.toList.all okC
def wordB : V → Bool
  | .str z => wordS z
  | _ => false
inductive Thing (H : Hp) : V → Prop
  | str (z : Str) (h : z.length ≤ 1000) (ha : asc z) : Thing H (.str z)
  | int (i : Int) : Thing H (.int i)
  | bl (b : Bool) : Thing H (.bl b)
  | non : Thing H .non
  | lst {p : Addr} {xs : List V} (h : H p = some (.lst xs)) : Thing H (.ref p)
  | tup {p : Addr} {xs : List V} (h : H p = some (.tup xs)) : Thing H (.ref p)
theorem Thing.same {H H' : Hp} {v : V} (s : Same H H') (t : Thing H v) : Thing H' v := by
  cases t with
  | str z h ha => exact .str z h ha
  | int i => exact .int i
  | bl b => exact .bl b
  | non => exact .non
  | lst h => exact .lst (s _ _ h)
  | tup h => exact .tup (s _ _ h)
def strB : V → Bool
  | .str _ => true
  | _ => false
theorem Thing.isi {K : PySem.W.Frag} {H : Hp} {v : V} (t : Thing H v) : ∃ ty, TyX K H v ty ∧ PySem.W.kitOne K ty (.type "str") = some (strB v) := by
  cases t with
  | str z h ha => exact ⟨_, .base (.str z), kit_ty (show kitB "str" "str" = some true by decide +kernel)⟩
  | int i => exact ⟨_, .base (.int i), kit_ty (show kitB "int" "str" = some false by decide +kernel)⟩
  | bl b => exact ⟨_, .base (.bl b), kit_ty (show kitB "bool" "str" = some false by decide +kernel)⟩
  | non => exact ⟨_, .base .non, kit_ty (by decide +kernel)⟩
  | lst h => exact ⟨_, .base (.lst h), kit_ty (show kitB "list" "str" = some false by decide +kernel)⟩
  | tup h => exact ⟨_, .base (.tup h), kit_ty (show kitB "tuple" "str" = some false by decide +kernel)⟩
theorem list1_lt (a b : Nat) : ([a] : List Nat) < [b] ↔ a < b := by
  constructor
  · intro h
    cases h with
    | rel h => exact h
    | cons h => cases h
  · intro h
    exact .rel h
theorem le_a (c : Nat) : (!decide ((⟨#[c]⟩ : Str).cps.toList < (Str.ofString "a").cps.toList)) = decide (97 ≤ c) := by
  have e : (Str.ofString "a").cps.toList = [97] := by decide +kernel
  rw [e, ← decide_not]
  apply decide_eq_decide.mpr
  show ¬ ([c] < [97]) ↔ _
  rw [list1_lt]; omega
theorem le_z (c : Nat) : (!decide ((Str.ofString "z").cps.toList < (⟨#[c]⟩ : Str).cps.toList)) = decide (c ≤ 122) := by
  have e : (Str.ofString "z").cps.toList = [122] := by decide +kernel
  rw [e, ← decide_not]
  apply decide_eq_decide.mpr
  show ¬ ([122] < [c]) ↔ _
  rw [list1_lt]; omega
theorem all_take {α : Type} {p : α → Bool} {l : List α} {i : Nat} {x : α} (h : l[i]? = some x) (a : (l.take i).all p = true) (b : p x = true) : (l.take (i + 1)).all p = true := by
  rw [List.take_add_one, h, List.all_append, a, Bool.true_and]
  show ([x] : List α).all p = true
  rw [List.all_cons, b]; rfl
theorem all_no {α : Type} {p : α → Bool} {l : List α} {i : Nat} {x : α} (h : l[i]? = some x) (b : p x = false) : l.all p = false := by
  cases e : l.all p with
  | false => rfl
  | true =>
    rw [List.all_eq_true.mp e x (List.mem_of_getElem? h)] at b
    cases b
theorem len_toList (z : Str) : z.cps.toList.length = z.length := by simp [Str.length]
theorem IsWord.ok {w : Str} (h : IsWord w) : wordS w = true := by
  unfold wordS
  rw [← len_toList, decide_eq_true h.lo, decide_eq_true h.hi, Bool.true_and, Bool.true_and, List.all_eq_true]
  intro c hc
  have := h.al c hc
  unfold okC
  rw [decide_eq_true this.1, decide_eq_true this.2]; rfl
theorem wordS_of {z : Str} (h : wordS z = true) : IsWord z := by
  unfold wordS at h
  rw [Bool.and_eq_true, Bool.and_eq_true, decide_eq_true_eq, decide_eq_true_eq, List.all_eq_true] at h
  refine ⟨by rw [len_toList]; exact h.1.1, by rw [len_toList]; exact h.1.2, fun c hc => ?_⟩
  have := h.2 c hc
  unfold okC at this
  rw [Bool.and_eq_true, decide_eq_true_eq, decide_eq_true_eq] at this
  exact this
def spIsWord : Sp := fun vs H Q _ => ∃ v, vs = [v] ∧ Thing H v ∧ Q (.bl (wordB v)) H
/-! ### what is raised where nothing is handled: its context is None -/
section
open PySem PySem.Spec PyProof.Rows
abbrev takes_of := @L2N.takes_of
abbrev passes_call := @L2N.passes_call
abbrev passAt := @L2N.passAt
abbrev ps_raise := @L2N.ps_raise
theorem passL {X : Cx} : Passes (L2N.CX X.prog X.w) X E0 := fun _ _ _ _ _ _ _ h => by
  obtain ⟨_, _, _, _, _, _, _, _, _, _, _, _, z⟩ := h
  exact z.elim
theorem takes0 {X : Cx} : L2N.Takes X (fun _ _ _ _ => False) := fun _ _ x => by
  obtain ⟨_, _, _, _, _, _, _, _, _, _, _, _, _, _, _, _, z⟩ := x
  exact z.elim
theorem _root_.L2.Fun.okXN {P : Program} {w : World} {K : PySem.W.Frag} {mg : Str → Option Value} {base : Heap} {x qual : Str} {st : Stmt} {f : Addr} {fd : FuncData} {N ps : List Str} {k : Nat} {sp : Sp} (F : L2.Fun K x qual st f fd) (S : FnScope N ps (defScope st)) (len : ∀ vs H Q E, sp vs H Q E → vs.length = ps.length)
    (body : ∀ (cdv : Value) (A : Around) (outer : List Env) (s : Shared) (H : Hp) (vs : List V) (Q : VK) (E : XK), Room k (A.deeper (envOfC qual (defScope st) s.heap.objs.size f cdv)) → sp vs H Q E →
      ∃ t, PSs (cxOf (L2N.CX P w) P w K mg base N qual (defScope st) f cdv A outer s H E) (defBody st) t ∧ t { nx := fun _ G => Q .non G, rt := Q } (L2.start N vs) H) : FnOk P w K mg base (L2N.CX P w) (k + 1) f fd ps sp := by
  obtain ⟨oc, od, kV, doc, pm, an, cdv, ct, osl, rfl, lk, hcd⟩ := F.ex
  exact fn_of lk hcd S len fun A outer s H vs Q E room q => body cdv A outer s H vs Q E room q
end
/-! ### own errors: an __init__ that says super().__init__(text) and stores fields -/
/-- the stores of an __init__: self.F = a parameter | a text -/
inductive Sts (ps : List Str) : List Stmt → List (Str × Sum Nat Str) → Prop
  | nil : Sts ps [] []
  | par {F p : Str} {i : Nat} {q1 q2 q3 q4 : Pos} {r : List Stmt} {fs : List (Str × Sum Nat Str)} (h : ps[i]? = some p) (t : Sts ps r fs) : Sts ps (.Assign [.Attribute (.Name "self" q1) F q2] (.Name p q3) q4 :: r) ((F, .inl i) :: fs)
  | con {F c : Str} {j : Nat} {q1 q2 q3 q4 : Pos} {r : List Stmt} {fs : List (Str × Sum Nat Str)} (t : Sts ps r fs) : Sts ps (.Assign [.Attribute (.Name "self" q1) F q2] (.Constant (.str c) j q3) q4 :: r) ((F, .inr c) :: fs)
def fldV (vs : List V) : Sum Nat Str → V
  | .inl i => vs.getD i .non
  | .inr c => .str c
def errF (vs : List V) : List (Str × Sum Nat Str) → List (Str × V) → List (Str × V)
  | [], acc => acc
  | p :: r, acc => errF vs r ((p.1, fldV vs p.2) :: acc)
/-- an exception while its __init__ runs -/
structure ErrAt (h0 h : Heap) (x C L : Addr) (m : Str → Option Value) (acc : List (Str × V)) (dd : Option Addr) : Prop where
  keep : ∀ b o, b ≠ x → h0.get? b = some o → h.get? b = some o
  sz : h0.objs.size ≤ h.objs.size
  ns : h.Ns L m
  obj : ∃ t1 : Addr, h.get? x = some ({ cls := .ref C, dict := dd, data := .fields #[.ref t1, .none, .none, .none, .bool false, .none] } : Obj)
  dct : match dd with | none => acc = [] | some dx => acc ≠ [] ∧ h0.objs.size ≤ dx ∧ dx ≠ x ∧ dx ≠ L ∧ ∃ mA, h.Ns1 dx mA ∧ ∀ f, RelO (acc.lookup f) (mA f)
theorem kept_but {K : PySem.W.Frag} {h h' : Heap} {x : Addr} (X : K.In h) (hx : K.lookup x = none) (k : ∀ b o, b ≠ x → h.get? b = some o → h'.get? b = some o) : K.In h' := fun a o e =>
  k a o (fun z => by rw [z, hx] at e; cases e) (X a o e)
/-- what the written part says of an error's class, at C; its __init__ at fI -/
structure ErrC (P : Program) (K : PySem.W.Frag) (C fI : Addr) (st : Stmt) (q : Str) (ps : List Str) (fs : List (Str × Sum Nat Str)) : Prop where
  cls : ∃ nm qn N bs bm sn sub ab col dd k0 k1 k2 k3 k5, K.lookup C = some (excClassObj nm qn C N bs bm true sn sub ab col dd k0 k1 k2 k3 k5 "ValueError.__new__") ∧ PySem.HandSPX.refsVE bm = true
  sa : PySem.W.findIn K (.ref C) "__setattr__" = some (some (.builtin "object.__setattr__"))
  ga : PySem.W.findIn K (.ref C) "__getattribute__" = some (some (.builtin "BaseException.__getattribute__"))
  gg : PySem.W.findIn K (.ref C) "__getattr__" = some none
  noF : ∀ p ∈ fs, PySem.W.findIn K (.ref C) p.1 = some none
  iC : PySem.W.findIn K (.ref C) "__init__" = some (some (.ref fI))
  tC : PySem.W.typeIn K (.ref fI) = some (.type "function")
  kC : PySem.W.keepIn K (.ref C) = true
  exC : PySem.W.subIn K (.ref C) (.type "BaseException") = some true
  veC : PySem.W.subIn K (.ref C) (.type "ValueError") = some true
  tyC : PySem.W.typeIn K (.ref C) = some (.type "type")
  hdC : PySem.W.hasDictIn K C = true
  su : PySem.W.ks_superIn K C C "__init__" = some (some (.builtin "ValueError.__init__"))
  mro : PySem.W.mroIn K C (.ref C) = some true
  te : PySem.W.exmOne K (.ref C) (.ref C) = some true
  op : PySem.W.nsIn K cStatics "thirdparty.any" = some none
  fn : ∃ (oc : Value) (od : Option Addr) (doc pm : Value) (an : Option Addr) (cda cc : Addr) (ct : Value) (osl : Array (Option Value)) (ccl : Value) (cdd : Option Addr) (vs : Array Value) (ccs : Array (Option Value)) (tf : Tok) (cl : Value) (cld : Option Addr) (csl : Array (Option Value)),
    K.lookup fI = some ⟨oc, od, .func (PySem.W.ksFn "__init__" q (defArgs st) (defBody st) (defScope st) .none .none doc pm an (.ref cda) ct cc), osl⟩ ∧ PySem.W.codeIn K (.ref cda) q = true ∧
    K.lookup cda = some ⟨ccl, cdd, .fields vs, ccs⟩ ∧ vs[2]? = some (.str P.main.file tf) ∧ K.lookup cc = some ⟨cl, cld, .cell (some (.ref C)), csl⟩
  hd : ∃ ar : Arg, ((defArgs st).posonlyargs ++ (defArgs st).args).head? = some ar ∧ ar.arg = "self"
  bd : ∀ (doc pm : Value) (an : Option Addr) (cda cc : Addr) (ct : Value) (us : List Value), us.length = ps.length + 1 → bindArgs (PySem.W.ksFn "__init__" q (defArgs st) (defBody st) (defScope st) .none .none doc pm an (.ref cda) ct cc) ⟨us, []⟩ = pure ((("self" : Str) :: ps).zip us)
  bo : ∃ (p0 p1 p2 p3 p4 p5 : Pos) (j : Nat) (msg : Str) (sts : List Stmt), defBody st = .Expr (.Call (.Attribute (.Call (.Name "super" p0) [] [] p1) "__init__" p2) [.Constant (.str msg) j p3] [] p4) p5 :: sts ∧ Sts ps sts fs ∧
    ∀ (L cda cc : Addr), ∃ pl : Sem Bool, eval (.Call (.Attribute (.Call (.Name "super" p0) [] [] p1) "__init__" p2) [.Constant (.str msg) j p3] [] p4) (PySem.W.ksEnv q (defScope st) L fI (.ref cda) cc) = (do
      let ov ← attributeBase (.Call (.Name "super" p0) [] [] p1) "__init__" (PySem.W.ksEnv q (defScope st) L fI (.ref cda) cc) (eval (.Call (.Name "super" p0) [] [] p1) (PySem.W.ksEnv q (defScope st) L fI (.ref cda) cc))
      standAt p2.atName
      let (f, first) ← holding [ov] (getMethod ov "__init__" pl)
      callWith p4 f first (backTo p4 (starEach [.Constant (.str msg) j p3] (PySem.W.ksEnv q (defScope st) L fI (.ref cda) cc))) [])
  sck : (defScope st).kind = .function
  scc : (defScope st).isCoroutine = false
  scg : (defScope st).isGenerator = false
  scn : ∀ x ∈ (defScope st).names, x.2 ≠ .cell
  scl : ∀ x ∈ (("self" : Str) :: ps), (defScope st).names.lookup x = some .local
  scs : (defScope st).names.lookup ("super" : Str) = some .globalImplicit
  scf : (defScope st).names.lookup ("__class__" : Str) = some .free
  nd : (("self" : Str) :: ps).Nodup
  top : (P.main.scope.names.lookup ("super" : Str)).isSome = false
section
open PySem PySem.W PySem.Calls PyProof.Rows PySem.HandSPX
variable {prog : Program} {w : World} {A : Around} {K : PySem.W.Frag} {C fI : Addr} {st : Stmt} {q : Str} {ps : List Str} {fs : List (Str × Sum Nat Str)}
theorem err_stores (T : ErrC prog K C fI st q ps fs) {h0 : Heap} {x L : Addr} {m : Str → Option Value} {vs : List V} {env : Env} {E : Value → Shared → Prop} (X0 : K.In h0) (hnx : K.lookup x = none) (hLx : L ≠ x)
    (hself : m "self" = some (.ref x)) (hpar : ∀ (i : Nat) p, ps[i]? = some p → ∃ v u, vs[i]? = some v ∧ RelV v u ∧ m p = some u)
    (hk : env.scope.kind = .function) (hlo : env.locals = L) (hkl : ∀ y ∈ (("self" : Str) :: ps), env.kindOf y = some .local) (hdb : ∀ y ∈ (("self" : Str) :: ps), (y == ("__debug__" : Str)) = false) :
    ∀ {sts : List Stmt} {fs' : List (Str × Sum Nat Str)}, Sts ps sts fs' → (∀ p ∈ fs', p ∈ fs) → ∀ {acc : List (Str × V)} {dd : Option Addr} {s : Shared} {Q : Flow → Shared → Prop}, ErrAt h0 s.heap x C L m acc dd → acc.length + fs'.length ≤ 100 →
      (∀ h' tk dd', ErrAt h0 h' x C L m (errF vs fs' acc) dd' → Q .next { s with heap := h', toks := tk }) → wpAny (model prog w) A (execs sts env) Q E s := by
  obtain ⟨nm, qn, N, bs, bm, sn, sub, ab, col, dd0, k0, k1, k2, k3, k5, hC, hbm⟩ := T.cls
  have hcl : clsIn K C = some { name := nm, bases := bs, mro := .ref C :: bm, ns := N, qualname := qn, hasDict := true, slotNames := sn, subclasses := sub, abstract := ab, collection := col, hasDel := false } := by unfold clsIn; rw [hC] <;> rfl
  have ldl : ∀ {y : Str} {u : Value} {pos : Pos} {s : Shared} {Q : Value → Shared → Prop}, y ∈ (("self" : Str) :: ps) → s.heap.Ns L m → m y = some u → Q u s → wpAny (model prog w) A (eval (.Name y pos) env) Q E s :=
    fun {y u pos s Q} hy hn hv h => wpAny_Name (wpAny_loadName_local hk (hkl y hy) (by rw [hlo]; exact hn) hv h) (hdb y hy)
  have hsf : ("self" : Str) ∈ (("self" : Str) :: ps) := List.mem_cons_self
  -- one store
  have one : ∀ {F : Str} {y : V} {u : Value} {acc : List (Str × V)} {dd : Option Addr} {s : Shared} {Q : Unit → Shared → Prop}, findIn K (.ref C) F = some none → RelV y u → ErrAt h0 s.heap x C L m acc dd → acc.length ≤ 99 →
      (∀ h' tk dd', ErrAt h0 h' x C L m ((F, y) :: acc) dd' → Q () { s with heap := h', toks := tk }) → wpAny (model prog w) A (setAttr (.ref x) F u) Q E s := by
    intro F y u acc dd s Q hF ry S hl hq
    obtain ⟨kp, sz, hn, ⟨t1, hx⟩, hd⟩ := S
    have X : K.In s.heap := kept_but X0 hnx kp
    obtain ⟨hp, g, d, tk, os⟩ := s
    obtain ⟨oL, esL, epL, hoL, hrL⟩ := id hn
    cases dd with
    | none =>
      have hd : acc = [] := hd
      subst hd
      refine set_plain X (ox := excO C t1) (od := none) ⟨hx, rfl, rfl, trivial⟩ T.sa ?_
      refine exc_osa X hx hcl (show refsVE (.ref C :: bm) = true from hbm) rfl hF (fun h₃ tk₃ dx k₃ dn dne hx₃ hn₃ => ?_)
      have dL : dx ≠ L := fun z => by
        have := Heap.lt_size hoL
        rw [← z] at this
        exact absurd (Nat.lt_of_lt_of_le this dn) (Nat.lt_irrefl _)
      have z3 : dx < h₃.objs.size := by
        obtain ⟨o, _, _, e, _⟩ := hn₃
        exact Heap.lt_size e
      refine hq h₃ tk₃ (some dx) ⟨fun b o hb e => k₃ b o hb (kp b o hb e), Nat.le_of_lt (Nat.lt_of_le_of_lt (Nat.le_trans sz dn) z3), ⟨oL, esL, epL, k₃ _ _ hLx hoL, hrL⟩, ⟨t1, hx₃⟩, ?_⟩
      exact ⟨List.cons_ne_nil _ _, Nat.le_trans sz dn, dne, dL, _, hn₃, relO_put (fs := []) ry fun g => True.intro⟩
    | some dx =>
      obtain ⟨_, d1, d2, d3, mA, hns, rel⟩ := hd
      have hw := within_of rel
      obtain ⟨oD, _, _, hoD, _, _⟩ := hns.count hw
      refine set_plain X (ox := { cls := .ref C, dict := some dx, data := .fields #[.ref t1, .none, .none, .none, .bool false, .none] }) (od := some oD) ⟨hx, rfl, rfl, hoD⟩ T.sa ?_
      refine PySem.OEX.osa_old X hx hns hw (by rw [List.length_map]; omega) hcl (show refsVE (.ref C :: bm) = true from hbm) rfl hF (fun h' tk' k hn' => ?_)
      have z3 : dx < h'.objs.size := by
        obtain ⟨o, _, _, e, _⟩ := hn'
        exact Heap.lt_size e
      refine hq h' tk' (some dx) ⟨fun b o hb e => k b o (fun z => ?_) (kp b o hb e), Nat.le_of_lt (Nat.lt_of_le_of_lt d1 z3), ⟨oL, esL, epL, k _ _ (Ne.symm d3) hoL, hrL⟩, ⟨t1, k _ _ (Ne.symm d2) hx⟩, ⟨List.cons_ne_nil _ _, d1, d2, d3, _, hn', relO_put ry rel⟩⟩
      have := Heap.lt_size e
      rw [z] at this
      exact absurd (Nat.lt_of_lt_of_le this d1) (Nat.lt_irrefl _)
  intro sts fs' S
  induction S with
  | nil =>
    intro hfs acc dd s Q S hl hq
    exact wpAny_execs_nil (by have := hq s.heap s.toks dd S; exact this)
  | @par F p i q1 q2 q3 q4 r fs1 h t ih =>
    intro hfs acc dd s Q S hl hq
    obtain ⟨v, u, hv, ru, hm⟩ := hpar i p h
    have hp : p ∈ (("self" : Str) :: ps) := List.mem_cons_of_mem _ (List.mem_of_getElem? h)
    refine wpAny_execs_cons (plainObj_wpAny_Assign_Attribute ?_)
    refine ldl hp S.ns hm (ldl hsf S.ns hself ?_)
    have hl2 : acc.length + (fs1.length + 1) ≤ 100 := hl
    refine one (hfs _ List.mem_cons_self |> T.noF _) ru S (by omega) fun h' tk dd' S' => ?_
    refine ih (fun z hz => hfs z (List.mem_cons_of_mem _ hz)) (s := { s with heap := h', toks := tk }) S' (by rw [List.length_cons]; omega) fun h'' tk' dd'' S'' => ?_
    have e : errF vs ((F, Sum.inl i) :: fs1) acc = errF vs fs1 ((F, v) :: acc) := by
      show errF vs fs1 ((F, vs.getD i .non) :: acc) = _
      rw [List.getD_eq_getElem?_getD, hv]; rfl
    rw [e] at hq
    exact hq h'' tk' dd'' S''
  | @con F c j q1 q2 q3 q4 r fs1 t ih =>
    intro hfs acc dd s Q S hl hq
    refine wpAny_execs_cons (plainObj_wpAny_Assign_Attribute ?_)
    refine Calls.Constant_str (ldl (s := { s with toks := s.toks + 1 }) hsf S.ns hself ?_)
    have hl2 : acc.length + (fs1.length + 1) ≤ 100 := hl
    refine one (y := .str c) (s := { s with toks := s.toks + 1 }) (hfs _ List.mem_cons_self |> T.noF _) ⟨_, rfl⟩ S (by omega) fun h' tk dd' S' => ?_
    refine ih (fun z hz => hfs z (List.mem_cons_of_mem _ hz)) (s := { s with heap := h', toks := tk }) S' (by rw [List.length_cons]; omega) fun h'' tk' dd'' S'' => ?_
    exact hq h'' tk' dd'' S''
end
section
open PySem PySem.W PySem.Calls PyProof.Rows PySem.HandSPX
variable {prog : Program} {w : World} {A : Around} {K : PySem.W.Frag} {C fI : Addr} {st : Stmt} {q : Str} {ps : List Str} {fs : List (Str × Sum Nat Str)}
theorem call_mw (T : ErrC prog K C fI st q ps fs) {E : Value → Shared → Prop} {h : Heap} {g : Array GenState} {d : Drawn} {t : Nat} {os : OsState} {u e t0 : Addr} {rest : List Value} {Q : Value → Shared → Prop} (X : K.In h)
    (he : h.get? e = some (excO C t0)) (hu : h.get? u = some (kxs_mw "ValueError.__init__" e)) (hrest : rest.length ≤ sizeLine)
    (hq : ∀ h' t1, (∀ b o, b ≠ e → h.get? b = some o → h'.get? b = some o) → h'.get? e = some (excO C t1) → Q .none ⟨h', g, d, t, os⟩) :
    wpAny (model prog w) A (call (.ref u) rest) Q E ⟨h, g, d, t, os⟩ := by
  obtain ⟨nm, qn, N, bs, bm, sn, sub, ab, col, dd0, k0, k1, k2, k3, k5, hC, hbm⟩ := T.cls
  refine wpAny_call (codeAny_of_tree ?_)
  show wpAny _ A.in1 (callAny (.ref u) ⟨rest, []⟩) _ _ _
  simp only [callAny]
  refine wpAny_bind (wpAny_load hu ?_)
  simp only [kxs_mw, show (Value.type "method-wrapper" == Value.type "method" || Value.type "method-wrapper" == Value.type "builtin_function_or_method" || Value.type "method-wrapper" == Value.type "method-wrapper") = true by decide, if_true]
  refine KFB.if_so (by decide) ?_
  refine wpAny_bind (check_bound_init F.excBase_ValueError.toExcCallFacts (X _ _ hC) he rfl ?_)
  refine wpAny_bind (wpAny_pure (wpAny_pure ?_))
  refine ⟨plainId_quiet F.excBase_ValueError.init.plain _, codeAny_builtin F.excBase_ValueError.initEntry ?_⟩
  exact exc_init_tree (cls := .ref C) (t0 := t0) (dv := none) (c2 := .none) (c3 := .none) (b4 := .bool false) he hrest fun h' k e1 _ => hq h' _ k e1
theorem err_initA {args : Args} (T : ErrC prog K C fI st q ps fs) {R : Result → Shared → Prop} {s : Shared} {x t0 : Addr} {vs : List V} {us : List Value} {mg : Str → Option Value} (X : K.In s.heap) (hlim : s.heap.NoLimit)
    (G : s.heap.Ns mainGlobals mg) (hsup : mg "super" = none) (B : ∃ mb, s.heap.Ns builtinsNs mb ∧ ∀ y : Str, y ≠ "__name__" → mb y = bootBuiltins y)
    (hx : s.heap.get? x = some (excO C t0)) (hnx : K.lookup x = none) (hroom : A.depth < recursionLimit) (hv : Vals vs us) (hlen : vs.length = ps.length) (hfs : fs.length ≤ 90) (hdb : ∀ y ∈ (("self" : Str) :: ps), (y == ("__debug__" : Str)) = false)
    (hba : ∀ (doc pm : Value) (an : Option Addr) (cda cc : Addr) (ct : Value), bindArgs (PySem.W.ksFn "__init__" q (defArgs st) (defBody st) (defScope st) .none .none doc pm an (.ref cda) ct cc) args = pure ((("self" : Str) :: ps).zip (.ref x :: us)))
    (hq : ∀ h' tk dd L m, L ≠ x → s.heap.objs.size ≤ L → ErrAt s.heap h' x C L m (errF vs fs []) dd → R (.ok (.ret .none)) { s with heap := h', toks := tk }) :
    codeAny (model prog w) A (.call (.ref fI) args) R s := by
  obtain ⟨oc, od, doc, pm, an, cda, cc, ct, osl, ccl, cdd, cvs, ccs, tf, cl, cld, csl, ho, hcd, hcode, hcv, hcell⟩ := T.fn
  obtain ⟨nm, qn, N, bs, bm, sn, sub, ab, col, dd0, k0, k1, k2, k3, k5, hC, hbm⟩ := T.cls
  obtain ⟨p0, p1, p2, p3, p4, p5, j, msg, sts, hbody, hsts, hev⟩ := T.bo
  obtain ⟨ar, har, hself⟩ := T.hd
  have hcl : clsIn K C = some { name := nm, bases := bs, mro := .ref C :: bm, ns := N, qualname := qn, hasDict := true, slotNames := sn, subclasses := sub, abstract := ab, collection := col, hasDel := false } := by unfold clsIn; rw [hC] <;> rfl
  have hul : us.length = ps.length := by rw [← hlen]; exact hv.length.symm
  have hbind := BindsTo.of_eq (s := s) (hba doc pm an cda cc ct)
  have binK : ∀ y ∈ ((("self" : Str) :: ps).zip (Value.ref x :: us)), (defScope st).names.lookup y.1 = some .local := fun ⟨n, u⟩ hy => T.scl n (List.of_mem_zip hy).1
  refine ks_codeAny_call_defAt (fd := ksFn "__init__" q (defArgs st) (defBody st) (defScope st) .none .none doc pm an (.ref cda) ct cc) (body := defBody st) (binds := (("self" : Str) :: ps).zip (Value.ref x :: us)) hroom (X _ _ ho) rfl hlim (codeRec_of X hcd) rfl hbind T.scn binK (fun h₁ hns hk₁ => ?_) T.scc T.scg T.sck
  have X₁ : K.In h₁ := X.keeps hk₁
  have hx₁ := hk₁ _ _ hx
  have hLx : s.heap.objs.size ≠ x := Nat.ne_of_gt (Heap.lt_size hx)
  have sz1 : s.heap.objs.size < h₁.objs.size := hns.lt
  generalize hm : (fun y => (List.reverse ((("self" : Str) :: ps).zip (Value.ref x :: us))).lookup y) = m at hns
  have key : ∀ (l1 : List Str) (l2 : List Value) (i : Nat) (y : Str) (u : Value), l1.Nodup → l1[i]? = some y → l2[i]? = some u → (List.reverse (l1.zip l2)).lookup y = some u := by
    intro l1
    induction l1 with
    | nil => intro l2 i y u _ h _; simp at h
    | cons a r ih =>
      intro l2 i y u nd h1 h2
      cases l2 with
      | nil => simp at h2
      | cons b l2 =>
        rw [List.zip_cons_cons, List.reverse_cons, List.lookup_append]
        cases i with
        | zero =>
          simp only [List.getElem?_cons_zero, Option.some.injEq] at h1 h2
          subst h1 h2
          have : (List.reverse (r.zip l2)).lookup a = none := by
            rw [List.lookup_eq_none_iff]
            intro p hp
            have hp' := List.mem_reverse.mp hp
            have := (List.of_mem_zip (show (p.1, p.2) ∈ r.zip l2 from hp')).1
            simp only [beq_eq_false_iff_ne, ne_eq, bne_iff_ne]
            intro e
            rw [e] at nd
            exact (List.nodup_cons.mp nd).1 this
          rw [this]
          simp [List.lookup]
        | succ i =>
          rw [ih l2 i y u (List.nodup_cons.mp nd).2 h1 h2]; rfl
  have mself : m "self" = some (.ref x) := by rw [← hm]; exact key _ _ 0 _ _ T.nd rfl rfl
  have mpar : ∀ (i : Nat) p, ps[i]? = some p → ∃ v u, vs[i]? = some v ∧ RelV v u ∧ m p = some u := fun i p hp => by
    have hi : i < vs.length := by rw [hlen]; exact (List.getElem?_eq_some_iff.mp hp).1
    obtain ⟨u, hu, ru⟩ := hv.get (List.getElem?_eq_getElem hi)
    refine ⟨_, u, List.getElem?_eq_getElem hi, ru, ?_⟩
    rw [← hm]
    exact key _ _ (i + 1) _ _ T.nd hp hu
  have hDget : h₁.get? C = some (excClassObj nm qn C N bs bm true sn sub ab col dd0 k0 k1 k2 k3 k5 "ValueError.__new__") := X₁ _ _ hC
  obtain ⟨pl, hev⟩ := hev s.heap.objs.size cda cc
  show _root_.PySem.wpAt _ (A.deeper (ksEnv q (defScope st) s.heap.objs.size fI (.ref cda) cc)) (.func (defBody st) (ksEnv q (defScope st) s.heap.objs.size fI (.ref cda) cc)) (execs (defBody st) (ksEnv q (defScope st) s.heap.objs.size fI (.ref cda) cc)) _ _ _
  generalize henv : ksEnv q (defScope st) s.heap.objs.size fI (.ref cda) cc = env at hev ⊢
  have e1 : env.scope = defScope st := by rw [← henv]
  have e2 : env.locals = s.heap.objs.size := by rw [← henv]
  have e3 : env.func = some fI := by rw [← henv]
  have e4 : env.code = .ref cda := by rw [← henv]
  have e5 : env.globals = mainGlobals := by rw [← henv]
  have e6 : env.builtins = builtinsNs := by rw [← henv]
  have e7 : env.cells.lookup ("__class__" : Str) = some cc := by rw [← henv]; rfl
  have kd : ∀ y, env.kindOf y = (defScope st).names.lookup y := fun y => by rw [← henv]; rfl
  have hkf : env.scope.kind = .function := by rw [e1]; exact T.sck
  generalize hbb : defBody st = body
  rw [hbb] at hbody
  have hbody2 : execs body env = execs (.Expr (.Call (.Attribute (.Call (.Name "super" p0) [] [] p1) "__init__" p2) [.Constant (.str msg) j p3] [] p4) p5 :: sts) env := by rw [hbody]
  rw [hbody2]
  refine ks_wpAt_execs_cons (ks_wpAt_Expr_any ?_ (by simp [interactive, hkf]) rfl)
  refine ks_wpAt_MethodCall (pl := pl) ?_ hev
  refine ks_wpAt_super_base ((kd _).trans T.scs) ((kd _).trans T.scf) (by decide) e3 (hk₁ _ _ (X _ _ ho)) rfl har e4 (X₁ _ _ hcode) rfl hcv (by simp) T.top ?_
  obtain ⟨mb, hB1, hB2⟩ := B
  refine ks_loadName_global hkf ((kd _).trans T.scs) (loadGlobal_builtin (by rw [e5]; exact G.keeps hk₁) hsup (by rw [e6]; exact hB1.keeps hk₁) ((hB2 _ (by decide)).trans (by decide +kernel)) ⟨rfl, ?_⟩)
  refine wpAny_loadName_free hkf ((kd _).trans T.scf) e7 ⟨_, X₁ _ _ hcell, rfl⟩ ?_
  rw [hself]
  refine wpAny_loadName_local hkf ((kd _).trans (T.scl _ List.mem_cons_self)) (by rw [e2]; exact hns) mself ?_
  refine ks_wpAny_isType_cls hDget rfl ⟨rfl, ?_⟩
  obtain ⟨hp0, g, d, tk, os⟩ := s
  refine ks_wpAny_call_super (ox := excO C t0) hDget rfl hx₁ rfl (fun c e => nomatch e) (looks_mroIn X₁ T.mro) (fun h₂ e₂ k₂ => ?_)
  have X₂ : K.In h₂ := X₁.keeps k₂
  have I₂ : InstAt h₂ x (excO C t0) C none := ⟨k₂ _ _ hx₁, rfl, rfl, trivial⟩
  have hsu := T.su
  unfold ks_superIn at hsu
  rw [hcl] at hsu
  refine kxs_getMethod kxs_ValueError e₂ (looks_opaque X₂ T.op) (l₀ := .ref C :: bm) ?_ rfl X₂ hsu (I₂.type.andThen (looks_subIn X₂ T.veC)) (ks_ne X₂ I₂ hcl) (by decide) ?_
  · exact fun A Q E s k q => wpAny_bind ((looks_clsIn X₂ hcl) A _ E s k (wpAny_pure q))
  have hu : (h₂.push (kxs_mw "ValueError.__init__" x)).get? h₂.objs.size = some (kxs_mw "ValueError.__init__" x) := Heap.get?_push_at rfl rfl
  have k₃ : ∀ b o, h₂.get? b = some o → (h₂.push (kxs_mw "ValueError.__init__" x)).get? b = some o := fun b o e => Heap.get?_push_of_some _ e
  show wpAny _ _ (callWith p4 (.ref h₂.objs.size) [] (backTo p4 (starEach [.Constant (.str msg) j p3] env)) []) _ _ _
  refine kxs_callWith (i := "ValueError.__init__") (x := x) rfl (evalArgs_plain ?_)
  show wpAny _ _ (spliced [(false, eval (.Constant (.str msg) j p3) env)]) _ _ _
  refine spliced_cons (Constant_str (spliced_nil ⟨hu, ?_⟩))
  refine call_mw T (X₂.keeps k₃) (k₃ _ _ (k₂ _ _ hx₁)) hu (by show 1 ≤ sizeLine; decide) fun h₄ t1 k₄ hx₄ => ?_
  show _root_.PySem.wpAt _ _ _ (execs sts env) _ _ _
  refine wpAt_of_wpAny ?_
  have keep4 : ∀ b o, b ≠ x → hp0.get? b = some o → h₄.get? b = some o := fun b o hb e => k₄ b o hb (k₃ _ _ (k₂ _ _ (hk₁ _ _ e)))
  obtain ⟨oL, esL, epL, hoL, hrL⟩ := id hns
  have hoL4 : h₄.get? hp0.objs.size = some oL := k₄ _ _ hLx (k₃ _ _ (k₂ _ _ hoL))
  have S0 : ErrAt hp0 h₄ x C hp0.objs.size m [] none := ⟨keep4, Nat.le_of_lt (Heap.lt_size hoL4), ⟨oL, esL, epL, hoL4, hrL⟩, ⟨t1, hx₄⟩, rfl⟩
  refine err_stores T (h0 := hp0) X hnx hLx mself mpar hkf e2 (fun y hy => (kd y).trans (T.scl y hy)) hdb hsts (fun _ z => z) (acc := []) (s := ⟨h₄, g, d, _, os⟩) S0 (by rw [List.length_nil]; omega) fun h' tk' dd' S' => ?_
  exact hq h' tk' dd' hp0.objs.size m hLx (Nat.le_refl _) S'
theorem err_init (T : ErrC prog K C fI st q ps fs) {R : Result → Shared → Prop} {s : Shared} {x t0 : Addr} {vs : List V} {us : List Value} {mg : Str → Option Value} (X : K.In s.heap) (hlim : s.heap.NoLimit)
    (G : s.heap.Ns mainGlobals mg) (hsup : mg "super" = none) (B : ∃ mb, s.heap.Ns builtinsNs mb ∧ ∀ y : Str, y ≠ "__name__" → mb y = bootBuiltins y)
    (hx : s.heap.get? x = some (excO C t0)) (hnx : K.lookup x = none) (hroom : A.depth < recursionLimit) (hv : Vals vs us) (hlen : vs.length = ps.length) (hfs : fs.length ≤ 90) (hdb : ∀ y ∈ (("self" : Str) :: ps), (y == ("__debug__" : Str)) = false)
    (hq : ∀ h' tk dd L m, L ≠ x → s.heap.objs.size ≤ L → ErrAt s.heap h' x C L m (errF vs fs []) dd → R (.ok (.ret .none)) { s with heap := h', toks := tk }) :
    codeAny (model prog w) A (.call (.ref fI) ⟨.ref x :: us, []⟩) R s :=
  err_initA T X hlim G hsup B hx hnx hroom hv hlen hfs hdb (fun doc pm an cda cc ct => T.bd doc pm an cda cc ct (.ref x :: us) (by rw [List.length_cons, ← hlen]; exact congrArg (· + 1) hv.length.symm)) hq
end
section
open PySem PySem.Spec PyProof.Rows
variable {X : Cx} {C fI : Addr} {st : Stmt} {q : Str} {ps : List Str} {fs : List (Str × Sum Nat Str)}
/-- what the making of such an error leaves: its class, its own dict (new), the fields -/
def errQ (C : Addr) (fs : List (Str × Sum Nat Str)) (vs : List V) (H1 : Hp) (Q : XK) : Prop := match fs with
  | [] => Q (.ref C) none H1
  | p :: r => ∀ d, H1 d = none → Q (.ref C) (some d) (upd H1 d (.xd (errF vs (p :: r) [])))
def tErr (C : Addr) (n : Nat) (fs : List (Str × Sum Nat Str)) (ta : TA) : L2.St → Hp → XK → Prop := fun σ H Q => ta σ H fun vs H1 => vs.length = n ∧ errQ C fs vs H1 Q
theorem errF_nil {vs : List V} : ∀ {fs : List (Str × Sum Nat Str)} {acc : List (Str × V)}, errF vs fs acc = [] → fs = [] ∧ acc = []
  | [], acc, e => ⟨rfl, e⟩
  | p :: r, acc, e => by
    obtain ⟨_, h⟩ := errF_nil (fs := r) (acc := (p.1, fldV vs p.2) :: acc) e
    cases h
theorem err_made (T : ErrC X.prog X.K C fI st q ps fs) {pins : List (Addr × Obj)} {σ : L2.St} {H1 : Hp} {s1 : Shared} {Q : XK} {vs : List V} {us : List Value} {k : Nat} (hsup : X.mg "super" = none) (hr : Room k X.A) (hfs : fs.length ≤ 90)
    (hdb : ∀ y ∈ (("self" : Str) :: ps), (y == ("__debug__" : Str)) = false) (I1 : Inv X pins σ H1 s1) (r : Vals vs us) (hl : vs.length = ps.length) (hz : us.length ≤ sizeLine)
    (q1 : errQ C fs vs H1 Q) :
    wpAny (model X.prog X.w) X.A (call (.ref C) us) (L2N.MkP X pins σ Q) X.xe s1 := by
  obtain ⟨nm, qn, N, bs, bm, sn, sub, ab, col, dd0, k0, k1, k2, k3, k5, hC, hbm⟩ := T.cls
  have hlim := I1.nolimit
  have KX := I1.kIn
  have G := I1.mod.glob.keeps I1.bk
  have B : ∃ mb, s1.heap.Ns builtinsNs mb ∧ ∀ y : Str, y ≠ "__name__" → mb y = bootBuiltins y := by
    obtain ⟨mb, b1, b2⟩ := I1.mod.blt
    exact ⟨mb, b1.keeps I1.bk, b2⟩
  obtain ⟨hp, g, dr, tk, os⟩ := s1
  have kk : ∀ b o, hp.get? b = some o → ((hp.push (PySem.W.kdv_tup us)).push (PySem.HandSPX.excO C hp.objs.size)).get? b = some o := fun b o e => Heap.get?_push_of_some _ (Heap.get?_push_of_some _ e)
  have hget : ((hp.push (PySem.W.kdv_tup us)).push (PySem.HandSPX.excO C hp.objs.size)).get? (hp.objs.size + 1) = some (PySem.HandSPX.excO C hp.objs.size) := by heap_get
  have hnx : X.K.lookup (hp.objs.size + 1) = none := by
    cases e : X.K.lookup (hp.objs.size + 1) with
    | none => rfl
    | some o =>
      have z : hp.get? (hp.objs.size + 1) = some o := KX _ _ e
      exact absurd (Nat.lt_of_succ_lt (Heap.lt_size z)) (Nat.lt_irrefl _)
  refine wpAny_call (PySem.HandSPX.call_own F.excBase_ValueError (fun Y => PySem.HandSPX.refsVE_contains Y bm hbm) (KX _ _ hC) (PySem.W.looks_findIn KX T.iC) (fun self => PySem.W.bind_fn KX self T.tC) hz ?_)
  have hdp := hr.dp
  refine err_init T (vs := vs) (mg := X.mg) (s := ⟨(hp.push (PySem.W.kdv_tup us)).push (PySem.HandSPX.excO C hp.objs.size), g, dr, tk, os⟩) (KX.keeps kk) (hlim.keeps kk) (G.keeps kk) hsup (let ⟨mb, b1, b2⟩ := B; ⟨mb, b1.keeps kk, b2⟩) hget hnx ?_ r hl hfs hdb fun h' tk' dd L m hLx hLz S => ?_
  · show X.A.depth + 1 < recursionLimit
    omega
  obtain ⟨kp, sz, hn, ⟨t1, hx⟩, hd⟩ := S
  have e2 : ((hp.push (PySem.W.kdv_tup us)).push (PySem.HandSPX.excO C hp.objs.size)).objs.size = hp.objs.size + 2 := by simp [Heap.size_push]
  have old0 : ∀ b o, hp.get? b = some o → h'.get? b = some o := fun b o e => kp b o (Nat.ne_of_lt (Nat.lt_succ_of_lt (Heap.lt_size e))) (kk b o e)
  obtain ⟨G', g1, g2⟩ := restrict h' fun b => decide (b ≠ hp.objs.size + 1)
  have gk : ∀ b, b ≠ hp.objs.size + 1 → G'.get? b = h'.get? b := fun b hb => g1 b (decide_eq_true hb)
  have ge : G'.get? (hp.objs.size + 1) = none := g2 _ (by simp)
  have old : ∀ b o, hp.get? b = some o → G'.get? b = some o := fun b o e => (gk b (Nat.ne_of_lt (Nat.lt_succ_of_lt (Heap.lt_size e)))).trans (old0 b o e)
  have sub2 : ∀ b o, G'.get? b = some o → h'.get? b = some o := fun b o e => by
    by_cases hb : b = hp.objs.size + 1
    · rw [hb, ge] at e; cases e
    · rw [← gk b hb]; exact e
  refine ⟨rfl, ?_⟩
  show L2N.MkP X pins σ Q (.ref (hp.objs.size + 1)) ⟨h', g, dr, tk', os⟩
  cases dd with
  | none =>
    have hd : errF vs fs [] = [] := hd
    obtain ⟨rfl, _⟩ := errF_nil hd
    have J : Inv X pins σ H1 ⟨G', g, dr, tk', os⟩ := I1.kept (t' := tk') old
    exact ⟨hp.objs.size + 1, _, _, ⟨G', g, dr, tk', os⟩, H1, .ref C, none, rfl, J, sub2, ge, hx, ⟨rfl, rfl, fun vs e => by cases e; rfl⟩, rfl, rfl, I1.hok.fresh (Nat.le_succ _), rfl, I1.bare, raises_own T.exC T.tyC, q1⟩
  | some dx =>
    obtain ⟨d0, d1, d2, d3, mA, hns, rel⟩ := hd
    rw [e2] at d1
    have hdx : hp.objs.size ≤ dx := Nat.le_trans (Nat.le_add_right _ 2) d1
    have nd : H1 dx = none := I1.hok.fresh hdx
    have ob : ObjOk X.prog X.w (upd H1 dx (.xd (errF vs fs []))) G' dx (.xd (errF vs fs [])) := ⟨mA, hns.at (fun o q => (gk dx d2).trans q), rel⟩
    have J : Inv X pins σ (upd H1 dx (.xd (errF vs fs []))) ⟨G', g, dr, tk', os⟩ := I1.laid (t' := tk') old hdx ob
    refine ⟨hp.objs.size + 1, _, _, ⟨G', g, dr, tk', os⟩, _, .ref C, some dx, rfl, J, sub2, ge, hx, ⟨rfl, rfl, fun vs e => by cases e; rfl⟩, rfl, rfl, ?_, rfl, I1.bare, raises_own T.exC T.tyC, ?_⟩
    · rw [upd_ne (Ne.symm d2)]
      exact I1.hok.fresh (Nat.le_succ _)
    · cases fs with
      | nil =>
        exact absurd rfl d0
      | cons p r => exact q1 dx nd
/-- C(e, ..) -/
theorem pmk_err {x : Str} {e : Expr} {es : List Expr} {ta : TA} {p pos : Pos} {k : Nat} (T : ErrC X.prog X.K C fI st q ps fs) (hm : X.mg x = some (.ref C)) (hsup : X.mg "super" = none) (hr : Room k X.A) (ha : PA X (e :: es) ta) (hg : Gl X x := by rfl)
    (hfs : fs.length ≤ 90 := by decide) (hps : ps.length ≤ 90 := by decide) (hdb : ∀ y ∈ (("self" : Str) :: ps), (y == ("__debug__" : Str)) = false := by decide) (hd : (x == ("__debug__" : Str)) = false := by decide)
    (he : starEach (e :: es) X.env = (false, eval e X.env) :: starEach es X.env := by rfl) (hpl : (backTo pos (starEach es X.env)).any (·.1) = false := by rfl) :
    L2N.PMk X (.Call (.Name x p) (e :: es) [] pos) (tErr C ps.length fs ta) := by
  intro pins s σ H Q I h
  refine wpAny_Call_Name_kw (ld_glob I hg hm ?_ hd)
  refine PySem.W.callWith_K (h₀ := X.base) I.ok.mod.kin T.kC (thn (ha.run pos pins s σ H _ I h) fun us s1 hh => ?_) he hpl
  obtain ⟨vs, H1, I1, r1, hl, q1⟩ := hh
  refine ⟨I1.kIn, ?_⟩
  exact err_made T hsup hr hfs hdb I1 r1 hl (by rw [List.nil_append, ← r1.length, hl, sizeLine_eq]; omega) q1
/-- C() -/
theorem pmk_err0 {x : Str} {p pos : Pos} {k : Nat} (T : ErrC X.prog X.K C fI st q [] fs) (hm : X.mg x = some (.ref C)) (hsup : X.mg "super" = none) (hr : Room k X.A) (hg : Gl X x := by rfl)
    (hfs : fs.length ≤ 90 := by decide) (hd : (x == ("__debug__" : Str)) = false := by decide) :
    L2N.PMk X (.Call (.Name x p) [] [] pos) (tErr C 0 fs tNil) := by
  intro pins s σ H Q I h
  refine wpAny_Call_Name_kw (ld_glob I hg hm ?_ hd)
  refine PySem.W.callWith_K0 I.kIn T.kC ?_
  obtain ⟨_, q1⟩ := h
  exact err_made T (vs := []) (us := []) hsup hr hfs (by decide) I .nil rfl (Nat.zero_le _) q1
end
/-! ### several except clauses, with or without a name -/
section
open PySem PySem.Spec PyProof.Rows
abbrev Cls1 := Value × Option Nat × (Addr → Value → Option Addr → TS)
def endsAs (i : Nat) (D : Ends) : Ends := { nx := fun σ' H' => D.nx (σ'.set i none) H', rt := D.rt, bk := fun σ' H' => D.bk (σ'.set i none) H', ct := fun σ' H' => D.ct (σ'.set i none) H' }
def wCl (D : Ends) (on : Option Nat) (ts : Addr → Value → Option Addr → TS) (a : Addr) (cls : Value) (d : Option Addr) (σ : L2.St) (H : Hp) : Prop := match on with
  | none => ts a cls d D σ H
  | some i => ts a cls d (endsAs i D) (σ.set i (some (.ref a))) H
/-- what the clauses wish of an exception of the body, one after the other -/
def wManyA (K : PySem.W.Frag) (Wout : WX) (D : Ends) : List Cls1 → WX
  | [] => Wout
  | (c, on, ts) :: r => fun cls d σ H => ∃ b, PySem.W.exmOne K cls c = some b ∧ (b = true → ∀ a, H a = none → wCl D on ts a cls d σ H) ∧ (b = false → wManyA K Wout D r cls d σ H)
inductive HdsA (X : Cx) : List ExceptHandler → List Cls1 → Prop
  | nil : HdsA X [] []
  | cons {x : Str} {c : Value} {ts : Addr → Value → Option Addr → TS} {b₀ : Stmt} {suite : List Stmt} {np pos' : Pos} {hds : List ExceptHandler} {l : List Cls1} (hc : Names X x c)
      (hsu : ∀ (a : Addr) (oe : Obj) (cls : Value) (d : Option Addr) (pn : List (Addr × Obj)), L2N.Zn cls d oe → (∃ vs, oe.data = .fields vs) → PSs (X.suite a ((a, oe) :: pn)) (b₀ :: suite) (ts a cls d)) (r : HdsA X hds l) :
      HdsA X (.ExceptHandler (some (.Name x np)) none (b₀ :: suite) pos' :: hds) ((c, none, ts) :: l)
  | consA {x n : Str} {c : Value} {i : Nat} {ts : Addr → Value → Option Addr → TS} {b₀ : Stmt} {suite : List Stmt} {np pos' : Pos} {hds : List ExceptHandler} {l : List Cls1} (hc : Names X x c) (hi : X.N[i]? = some n) (hln : X.env.kindOf n = some .local)
      (hsu : ∀ (a : Addr) (oe : Obj) (cls : Value) (d : Option Addr) (pn : List (Addr × Obj)), L2N.Zn cls d oe → (∃ vs, oe.data = .fields vs) → PSs (X.suite a ((a, oe) :: pn)) (b₀ :: suite) (ts a cls d)) (r : HdsA X hds l) :
      HdsA X (.ExceptHandler (some (.Name x np)) (some n) (b₀ :: suite) pos' :: hds) ((c, some i, ts) :: l)
variable {X : Cx} {body : List Stmt} {h₀ : ExceptHandler} {hds : List ExceptHandler} {l : List Cls1} {pos : Pos} {tb : WX → TS} {Wout : WX}
theorem ps_tryA (hs : X.stack = X.env :: X.outer) (hf : X.env.frame = some X.env.locals) (hN : X.N.Nodup) (tk : L2N.Takes X Wout)
    (hb : ∀ (W : WX) (pn : List (Addr × Obj)) (xe : Value → Shared → Prop), L2N.Takes (X.tr pn xe) W → PassesOwn (model X.prog X.w) X.A X.env xe → PSs (X.tr pn xe) body (tb W))
    (hh : HdsA X (h₀ :: hds) l) : PS X (.Try body (h₀ :: hds) [] [] pos) (fun D σ H => tb (wManyA X.K Wout D l) D σ H) := by
  refine ⟨fun pins s σ H D I h => ?_⟩
  have ok := I.ok
  have hfr : X.A.frames = some (X.env :: X.outer) := by rw [ok.frames, hs]
  refine wpAny_Try_except ?_
  refine wpAny_mono ((hb (wManyA X.K Wout D l) (X.pn ++ pins) (fun e s₁ => wpAny (model X.prog X.w) X.A (noteFrame e X.env) (fun _ s₂ => wpAny (model X.prog X.w) X.A (setFlight e none) (fun _ s₃ =>
    wpAny (model X.prog X.w) X.A (handleBy e X.env (h₀ :: hds)) (SP X pins D) X.xe s₃) X.xe s₂) X.xe s₁) (fun u s' xx => ?_) PassesOwn.looking).run [] s σ H D (I.toTry _) h) (fun f s1 hsp => ?_) (fun e s1 he => he)
  · -- the catch
    obtain ⟨a, B, sI, pins', σ', H', cls, d, rfl, J', nb, up, sky, na, os, ag, w⟩ := xx
    have J : Inv X pins σ' H' sI := J'.ofTry ok
    have sky' : Sky B (X.env :: X.outer) a (L2N.Zn cls d) X.env.locals s'.heap := by rw [← hs]; exact sky
    show wpAny (model X.prog X.w) X.A (noteFrame (.ref a) X.env) _ _ _
    refine L2N.Sky.land L2N.Zn.steady hfr hf sky' fun h3 fl3 up3 => ?_
    have J3 : Inv X pins σ' H' { s' with heap := h3 } := J.landed nb fl3.1 (up.trans up3) os ag
    obtain ⟨oe3, vs3, he3, hz3, hd3⟩ := fl3.there
    have notFr : ∀ {h : Heap} {o : Obj} {vs : Array Value}, h.FunFrames B (X.env :: X.outer) → h.get? a = some o → o.data = .fields vs → a ∉ frs (X.env :: X.outer) := fun {h o vs} ff e dd hm => by
      obtain ⟨_, o', e', hnf⟩ := ff.mem hm
      rw [e] at e'; cases e'
      exact hnf _ dd
    have nfr := notFr fl3.2.2.1 he3 hd3
    have nL : a ≠ X.env.locals := fun z => nfr (List.mem_filterMap.mpr ⟨X.env, List.mem_cons_self, by rw [hf, z]⟩)
    have nF : a ∉ X.fs := fun hm => by
      obtain ⟨e, he, q⟩ := List.mem_filterMap.mp hm
      exact nfr (List.mem_filterMap.mpr ⟨e, List.mem_cons_of_mem _ he, q⟩)
    have S3 := J3.suite he3 hd3 na nL nF
    have tst : ∀ {x : Str} {c : Value} {np : Pos}, Names X x c → ∀ {Q : Value → Shared → Prop} {E : Value → Shared → Prop}, Q c { s' with heap := h3 } → wpAny (model X.prog X.w) (X.A.mark (some (.ref a))) (eval (.Name x np) X.env) Q E { s' with heap := h3 } := fun {x c np} hc {Q E} q => by
      obtain ⟨hg, hdbg, hm | ⟨hm, hv, hnn⟩⟩ := hc
      · exact ld_glob (X := X.suite a ((a, oe3) :: (X.pn ++ pins))) S3 hg hm q hdbg
      · exact ld_blt (X := X.suite a ((a, oe3) :: (X.pn ++ pins))) S3 hg hm hv q hnn hdbg
    have LT : PySem.W.Looks (model X.prog X.w) h3 (typeOf (.ref a)) cls := fun A Q E s k q => wpAny_typeOf_ref (k _ _ he3) (by rw [hz3.1]; exact q)
    have go : ∀ {hds' : List ExceptHandler} {l' : List Cls1}, HdsA X hds' l' → wManyA X.K Wout D l' cls d σ' H' →
        wpAny (model X.prog X.w) X.A (handleBy (.ref a) X.env hds') (SP X pins D) X.xe { s' with heap := h3 } := by
      intro hds' l' hk
      induction hk with
      | nil =>
        intro w
        refine wpAny_handleBy_nil ?_
        obtain ⟨k1, k2, k3, oe, vs, T, oT, ts', he, hz, hd, h1, hr⟩ := id fl3
        unfold PySem.passOn
        refine wpAny_bind (wpAny_field he hd h1 ?_)
        rw [if_neg (show ¬ ((Value.ref T == Value.none) = true) from by simp)]
        have fin : wpAny (model X.prog X.w) X.A (setFlight (.ref a) X.env.frame) (fun _ s4 => wpAny (model X.prog X.w) X.A (throw (.ref a) : Sem Flow) (SP X pins D) X.xe s4) X.xe { s' with heap := h3 } := by
          rw [hf]
          refine HandSPX.setFlight_upZ fl3 fun h4 hh4 up4 => wpAny_throw (tk _ _ ?_)
          exact ⟨a, B, sI, pins, σ', H', cls, d, rfl, J, nb, (up.trans up3).trans up4, .inr (.inr (by rw [hs]; exact hh4)), na, os, ag, w⟩
        first
          | exact wpAny_bind (wpAny_pure (wpAny_bind fin))
          | exact wpAny_bind fin
      | @cons x c ts b₀ suite np pos' hds2 l2 hc hsu r ih =>
        intro w
        obtain ⟨b, hb1, hyes, hno⟩ := w
        refine wpAny_handleBy_cons (codeAny_handlers_test ?_) (by intro q; cases q)
        have LM := PySem.W.exm_one (M := model X.prog X.w) (J3.kIn) LT hb1
        refine tst hc (LM.here ?_)
        cases b with
        | true =>
          refine codeAny_handlers_suite ?_
          refine HandSPX.lands_againZ fl3 fun h4 fl4 up4 => ?_
          have J4 : Inv X pins σ' H' { s' with heap := h4 } := J.landed nb fl4.1 ((up.trans up3).trans up4) os ag
          obtain ⟨oe4, vs4, he4, hz4, hd4⟩ := fl4.there
          have S4 := J4.suite he4 hd4 na nL nF
          refine wpAny_mono ((hsu a oe4 cls d (X.pn ++ pins) hz4 ⟨_, hd4⟩).run [] _ _ H' _ S4 (hyes rfl a na)) (fun f s6 hsp => ?_) (fun _ _ z => False.elim z)
          cases f with
          | next =>
            obtain ⟨σ6, H6, S6, q6⟩ := hsp
            exact ⟨_, _, S6.unsuite ok, q6⟩
          | brk =>
            obtain ⟨σ6, H6, S6, q6⟩ := hsp
            exact ⟨_, _, S6.unsuite ok, q6⟩
          | cont =>
            obtain ⟨σ6, H6, S6, q6⟩ := hsp
            exact ⟨_, _, S6.unsuite ok, q6⟩
          | ret u =>
            obtain ⟨v6, σ6, H6, S6, r6, q6⟩ := hsp
            exact ⟨_, _, _, S6.unsuite ok, r6, q6⟩
        | false =>
          show wpAny _ X.A (handleBy (.ref a) X.env hds2) _ _ _
          exact ih (hno rfl)
      | @consA x n c i ts b₀ suite np pos' hds2 l2 hc hi hln hsu r ih =>
        intro w
        obtain ⟨b, hb1, hyes, hno⟩ := w
        have hloc : Loc X.env.scope n := .inl hln
        refine wpAny_handleBy_cons (codeAny_handlers_test ?_) (by intro q; cases q)
        have LM := PySem.W.exm_one (M := model X.prog X.w) (J3.kIn) LT hb1
        refine tst hc (LM.here ?_)
        cases b with
        | true =>
          refine codeAny_handlers_suite_as ?_
          refine HandSPX.lands_againZ fl3 fun h4 fl4 up4 => ?_
          have J4 : Inv X pins σ' H' { s' with heap := h4 } := J.landed nb fl4.1 ((up.trans up3).trans up4) os ag
          obtain ⟨oe4, vs4, he4, hz4, hd4⟩ := fl4.there
          have S4 := J4.suite he4 hd4 na nL nF
          refine store_ok (X := X.suite a ((a, oe4) :: (X.pn ++ pins))) (v := .ref a) S4 hN hi hloc rfl (fun s5 S5 => ?_) (.inr hln)
          refine wpAny_mono ((hsu a oe4 cls d (X.pn ++ pins) hz4 ⟨_, hd4⟩).run [] s5 _ H' _ S5 (hyes rfl a na)) (fun f s6 hsp => ?_) (fun _ _ z => False.elim z)
          have end_ : ∀ {σ6 : L2.St} {H6 : Hp} {Q : Shared → Prop}, Inv (X.suite a ((a, oe4) :: (X.pn ++ pins))) [] σ6 H6 s6 → (∀ s7, Inv X pins (σ6.set i none) H6 s7 → Q s7) →
              wpAny (model X.prog X.w) X.A (do bindName X.env n .none; unbindBehindTheSuite X.env n pos') (fun _ s7 => Q s7) X.xe s6 := fun {σ6 H6 Q} S6 hq => gone_ok (S6.unsuite ok) hN hi hln hq
          cases f with
          | next =>
            obtain ⟨σ6, H6, S6, q6⟩ := hsp
            exact end_ S6 fun s7 J7 => ⟨_, _, J7, q6⟩
          | brk =>
            obtain ⟨σ6, H6, S6, q6⟩ := hsp
            exact end_ S6 fun s7 J7 => ⟨_, _, J7, q6⟩
          | cont =>
            obtain ⟨σ6, H6, S6, q6⟩ := hsp
            exact end_ S6 fun s7 J7 => ⟨_, _, J7, q6⟩
          | ret u =>
            obtain ⟨v6, σ6, H6, S6, r6, q6⟩ := hsp
            exact end_ S6 fun s7 J7 => ⟨_, _, _, J7, r6, q6⟩
        | false =>
          show wpAny _ X.A (handleBy (.ref a) X.env hds2) _ _ _
          exact ih (hno rfl)
    exact go hh w
  · cases f with
    | next =>
      obtain ⟨σ', H', J', q⟩ := hsp
      exact wpAny_execs_nil ⟨σ', H', J'.ofTry ok, q⟩
    | brk =>
      obtain ⟨σ', H', J', q⟩ := hsp
      exact ⟨σ', H', J'.ofTry ok, q⟩
    | cont =>
      obtain ⟨σ', H', J', q⟩ := hsp
      exact ⟨σ', H', J'.ofTry ok, q⟩
    | ret u =>
      obtain ⟨v, σ', H', J', r, q⟩ := hsp
      exact ⟨v, σ', H', J'.ofTry ok, r, q⟩
/-! ### o.m(e, ..) with a wish by the slots, defaults, keywords -/
variable {CX : CXT} {k : Nat} {f C : Addr} {fd : FuncData} {ps ks : List Str} {sp : Sp} {dvs : List V} {ds : List Value} {E : L2.St → XK} {x m : Str} {p apos : Pos} {e o : Expr} {es : List Expr} {kws : List Keyword} {ta : TE} {t tk : TA}
def tMethS (C : Addr) (m : Str) (sp : Sp) (dvs : List V) (E : L2.St → XK) (to : TE) (ta : TA) : TE := fun σ H Q => to σ H fun x H1 => ∃ a dx fs, x = .ref a ∧ H1 a = some (.ins C dx fs) ∧ fs.lookup m = none ∧ ta σ H1 fun vs H2 => sp (.ref a :: (vs ++ dvs)) H2 Q (E σ)
theorem pe_methSD {pl : Sem Bool} (he : PE X o ta) (c : Cls X.K C) (hm : Meth X.K C m f) (F : FnOk X.prog X.w X.K X.mg X.base CX k f fd ps sp) (hr : Room k X.A) (hb : Binds X.K fd ps ds) (hd : Vals dvs ds) (hx : ∀ σ, PassesAt CX X σ (E σ)) (ha : PA X (e :: es) t)
    (hst : starEach (e :: es) X.env = (false, eval e X.env) :: starEach es X.env := by rfl) (hpl : (backTo pos (starEach es X.env)).any (·.1) = false := by rfl)
    (ht : eval (.Call (.Attribute o m apos) (e :: es) [] pos) X.env = (do
      let ov ← eval o X.env
      standAt apos.atName
      let (f, first) ← holding [ov] (getMethod ov m pl)
      callWith pos f first (backTo pos (starEach (e :: es) X.env)) (backToKw pos (keywordEach [] X.env))) := by rfl) :
    PE X (.Call (.Attribute o m apos) (e :: es) [] pos) (tMethS C m sp dvs E ta t) := by
  refine ⟨fun pins s σ H Q I h => ?_⟩
  refine PySem.W.methodCall_KW (pl := pl) (thn (he.run pins s σ H _ I h) fun u s1 ⟨x, H1, I1, rx, a, dx, fs, ex, ea, l, q⟩ => ?_) ht
  subst ex
  obtain rfl : u = Value.ref a := rx
  refine getmeth_ok I1 ea c hm l ?_
  refine PySem.W.callWith_K (first := [.ref a]) (h₀ := X.base) I.ok.mod.kin hm.kp (thn (ha.run pos pins s1 σ H1 _ I1 q) fun us s2 ⟨vs, H2, I2, r, q2⟩ => ⟨I2.kIn, ?_⟩) hst hpl
  exact run_fnSD (us := .ref a :: us) (vs := .ref a :: vs) F hr hb hd (hx σ) I2 (.cons rfl r) q2
theorem pe_methSD0 {pl : Sem Bool} (he : PE X o ta) (c : Cls X.K C) (hm : Meth X.K C m f) (F : FnOk X.prog X.w X.K X.mg X.base CX k f fd ps sp) (hr : Room k X.A) (hb : Binds X.K fd ps ds) (hd : Vals dvs ds) (hx : ∀ σ, PassesAt CX X σ (E σ))
    (ht : eval (.Call (.Attribute o m apos) [] [] pos) X.env = (do
      let ov ← eval o X.env
      standAt apos.atName
      let (f, first) ← holding [ov] (getMethod ov m pl)
      callWith pos f first (backTo pos (starEach [] X.env)) (backToKw pos (keywordEach [] X.env))) := by rfl) :
    PE X (.Call (.Attribute o m apos) [] [] pos) (tMethS C m sp dvs E ta tNil) := by
  refine ⟨fun pins s σ H Q I h => ?_⟩
  refine PySem.W.methodCall_KW (pl := pl) (thn (he.run pins s σ H _ I h) fun u s1 ⟨x, H1, I1, rx, a, dx, fs, ex, ea, l, q⟩ => ?_) ht
  subst ex
  obtain rfl : u = Value.ref a := rx
  refine getmeth_ok I1 ea c hm l ?_
  exact PySem.W.callWith_K0 (first := [.ref a]) I1.kIn hm.kp (run_fnSD (us := [.ref a]) (vs := [.ref a]) F hr hb hd (hx σ) I1 (.cons rfl .nil) q)
end
/-! ### defs under which repr is asked: no guard is up, the table of modules is a dict -/
section
open PySem PySem.Spec PyProof.Rows
def GdB (A : Around) (base : Heap) : Prop := A.guards = some [] ∧ ∃ mm, base.Ns sysModules mm
structure FnG (P : Program) (w : World) (K : PySem.W.Frag) (mg : Str → Option Value) (base : Heap) (CX : CXT) (k : Nat) (f : Addr) (fd : FuncData) (ps : List Str) (sp : Sp) : Prop where
  len : ∀ vs H Q E, sp vs H Q E → vs.length = ps.length
  run : ∀ (A : Around) (outer : List Env) (s : Shared) (H : Hp) (args : Args) (us : List Value) (vs : List V) (Q : VK) (E : XK), Room k A → GdB A base → Env0 P w K mg base A outer s H → BindsTo s fd args (ps.zip us) → Vals vs us → sp vs H Q E →
    codeAny (model P w) A (.call (.ref f) args) (CR CX outer P w H s Q E) s
theorem FnG.of {P : Program} {w : World} {K : PySem.W.Frag} {mg : Str → Option Value} {base : Heap} {CX : CXT} {k : Nat} {f : Addr} {fd : FuncData} {ps : List Str} {sp : Sp} (F : FnOk P w K mg base CX k f fd ps sp) : FnG P w K mg base CX k f fd ps sp :=
  ⟨F.len, fun A outer s H args us vs Q E hr _ => F.run A outer s H args us vs Q E hr⟩
theorem FnG.mono {P : Program} {w : World} {K : PySem.W.Frag} {mg : Str → Option Value} {base : Heap} {CX : CXT} {j k : Nat} {f : Addr} {fd : FuncData} {ps : List Str} {sp : Sp} (F : FnG P w K mg base CX j f fd ps sp) (h : j ≤ k) : FnG P w K mg base CX k f fd ps sp :=
  ⟨F.len, fun A outer s H args us vs Q E hr => F.run A outer s H args us vs Q E (hr.mono h)⟩
theorem fn_ofG {CX : CXT} {P : Program} {w : World} {K : PySem.W.Frag} {mg : Str → Option Value} {base : Heap} {k : Nat} {f : Addr} {name qual : Str} {params : Arguments} {body : List Stmt} {scope : Scope} {dV kV doc pm cdv ct oc : Value} {an od : Option Addr}
    {osl : Array (Option Value)} {N ps : List Str} {sp : Sp} (lk : K.lookup f = some ⟨oc, od, .func (PySem.W.fnOf name qual params body scope dV kV doc pm an cdv ct), osl⟩) (hcd : PySem.W.codeIn K cdv qual = true) (S : FnScope N ps scope)
    (len : ∀ vs H Q E, sp vs H Q E → vs.length = ps.length)
    (hbody : ∀ (A : Around) (outer : List Env) (s : Shared) (H : Hp) (vs : List V) (Q : VK) (E : XK), Room k (A.deeper (envOfC qual scope s.heap.objs.size f cdv)) → GdB A base → sp vs H Q E →
      ∃ t, PSs (cxOf CX P w K mg base N qual scope f cdv A outer s H E) body t ∧ t { nx := fun _ H' => Q .non H', rt := Q } (start N vs) H) :
    FnG P w K mg base CX (k + 1) f (PySem.W.fnOf name qual params body scope dV kV doc pm an cdv ct) ps sp := by
  refine ⟨len, fun A outer s H args us vs Q E hr hg e0 hb r hsp => ?_⟩
  have hl := len _ _ _ _ hsp
  have KX : K.In s.heap := e0.mod.kin.keeps fun b o e => (e0.bs b o e).1
  have lim : s.heap.NoLimit := e0.mod.nolimit.keeps fun b o e => (e0.bs b o e).1
  have hkind : ∀ y ∈ ps.zip us, scope.names.lookup y.1 = some .local ∨ (scope.names.lookup y.1 = some .cell ∧ ((cellsFrom (s.heap.objs.size + 1) scope.names []).lookup y.1).isSome = true) := fun ⟨n, v⟩ hy => by
    rcases S.par n (List.of_mem_zip hy).1 with q | q
    · exact .inl q
    · exact .inr ⟨q, PySem.W.cellsFrom_some _ _ _ (.inl q)⟩
  refine codeAny_call_function hr.depth (KX _ _ lk) rfl S.co S.gen rfl (PySem.W.codeRec_of KX hcd) (hb _ _ _ _ ?_)
  refine wpAny_newFunctionEnv_cells S.kind hkind fun env he s1 x => ?_
  subst he
  refine ⟨lim.keeps x.toInCall.keep, codeAny_func ?_⟩
  obtain ⟨t, ht, hq⟩ := hbody A outer s H vs Q E (hr.deeper _) hg hsp
  have I : Inv (cxOf CX P w K mg base N qual scope f cdv A outer s H E) [] (start N vs) H s1 := inv_start S hr.hd e0 hl r x
  refine wpAny_mono (ht.run [] s1 (start N vs) H _ I hq) (fun fl s' hs => ?_) fun e s' hs => hs
  have fin : ∀ {σ' : L2.St} {H' : Hp} {v : V} {u : Value}, Inv (cxOf CX P w K mg base N qual scope f cdv A outer s H E) [] σ' H' s' → RelV v u → Q v H' → CE outer P w H s Q u s' :=
    fun {σ' H' v u} J rv q => ⟨v, H', J.os, J.bare, J.base, J.hok, rv, q⟩
  cases fl with
  | ret u =>
    obtain ⟨v, σ', H', J, rv, q⟩ := hs
    exact fin J rv q
  | next =>
    obtain ⟨σ', H', J, q⟩ := hs
    exact fin (v := V.non) (u := Value.none) J rfl q
  | brk =>
    obtain ⟨_, _, _, q⟩ := hs
    exact False.elim q
  | cont =>
    obtain ⟨_, _, _, q⟩ := hs
    exact False.elim q
theorem okG {P : Program} {w : World} {K : PySem.W.Frag} {mg : Str → Option Value} {base : Heap} {x qual : Str} {st : Stmt} {f : Addr} {fd : FuncData} {N ps : List Str} {k : Nat} {sp : Sp} (F : L2.Fun K x qual st f fd) (S : FnScope N ps (defScope st)) (len : ∀ vs H Q E, sp vs H Q E → vs.length = ps.length)
    (hbody : ∀ (cdv : Value) (A : Around) (outer : List Env) (s : Shared) (H : Hp) (vs : List V) (Q : VK) (E : XK), Room k (A.deeper (envOfC qual (defScope st) s.heap.objs.size f cdv)) → GdB A base → sp vs H Q E →
      ∃ t, PSs (cxOf CX0 P w K mg base N qual (defScope st) f cdv A outer s H E).nox (defBody st) t ∧ t { nx := fun _ H' => Q .non H', rt := Q } (start N vs) H) : FnG P w K mg base CX0 (k + 1) f fd ps sp := by
  obtain ⟨oc, od, kV, doc, pm, an, cdv, ct, osl, rfl, lk, hcd⟩ := F.ex
  refine fn_ofG lk hcd S len fun A outer s H vs Q E hr hg hsp => ?_
  obtain ⟨t, h, q⟩ := hbody cdv A outer s H vs Q E hr hg hsp
  exact ⟨t, h.nox, q⟩
theorem okGX {P : Program} {w : World} {K : PySem.W.Frag} {mg : Str → Option Value} {base : Heap} {x qual : Str} {st : Stmt} {f : Addr} {fd : FuncData} {N ps : List Str} {k : Nat} {sp : Sp} (F : L2.Fun K x qual st f fd) (S : FnScope N ps (defScope st)) (len : ∀ vs H Q E, sp vs H Q E → vs.length = ps.length)
    (hbody : ∀ (cdv : Value) (A : Around) (outer : List Env) (s : Shared) (H : Hp) (vs : List V) (Q : VK) (E : XK), Room k (A.deeper (envOfC qual (defScope st) s.heap.objs.size f cdv)) → GdB A base → sp vs H Q E →
      ∃ t, PSs (cxOf (L2N.CX P w) P w K mg base N qual (defScope st) f cdv A outer s H E) (defBody st) t ∧ t { nx := fun _ H' => Q .non H', rt := Q } (start N vs) H) : FnG P w K mg base (L2N.CX P w) (k + 1) f fd ps sp := by
  obtain ⟨oc, od, kV, doc, pm, an, cdv, ct, osl, rfl, lk, hcd⟩ := F.ex
  exact fn_ofG lk hcd S len fun A outer s H vs Q E hr hg hsp => hbody cdv A outer s H vs Q E hr hg hsp
section
variable {X : Cx} {CX : CXT} {k : Nat} {f C : Addr} {fd : FuncData} {ps : List Str} {sp : Sp} {dvs : List V} {ds : List Value} {E : XK} {x m : Str} {p pos apos : Pos} {e o : Expr} {es : List Expr} {ta : TE} {t : TA}
theorem run_fnG {pins : List (Addr × Obj)} {σ : L2.St} {H : Hp} {s : Shared} {Q : VK} {us : List Value} {vs : List V} (F : FnG X.prog X.w X.K X.mg X.base CX k f fd ps sp) (hr : Room k X.A) (hgd : GdB X.A X.base) (hb : Binds X.K fd ps ds) (hd : Vals dvs ds) (hx : Passes CX X E)
    (I : Inv X pins σ H s) (r : Vals vs us) (h : sp (vs ++ dvs) H Q E) : wpAny (model X.prog X.w) X.A (call (.ref f) us) (EP X pins σ Q) X.xe s := by
  have r2 : Vals (vs ++ dvs) (us ++ ds) := r.append hd
  have hl : (us ++ ds).length = ps.length := by rw [← r2.length]; exact F.len _ _ _ _ h
  refine wpAny_call (codeAny_mono (F.run X.A X.stack s H ⟨us, []⟩ (us ++ ds) (vs ++ dvs) Q E hr hgd I.env0 (hb s us I.kIn hl) r2 h) fun r s' hq => ?_)
  cases r with
  | error e => exact hx pins σ H s e s' I hq
  | ok fl =>
    cases fl with
    | ret u => exact I.after hq
    | next => exact False.elim hq
    | brk => exact False.elim hq
    | cont => exact False.elim hq
theorem pe_callG (F : FnG X.prog X.w X.K X.mg X.base CX k f fd ps sp) (hr : Room k X.A) (hgd : GdB X.A X.base) (hg : Gl X x) (hm : X.mg x = some (.ref f)) (hk : PySem.W.keepIn X.K (.ref f) = true) (hb : Binds X.K fd ps ds) (hd : Vals dvs ds) (hx : Passes CX X E)
    (ha : PA X (e :: es) t) (hdb : (x == ("__debug__" : Str)) = false := by decide) (he : starEach (e :: es) X.env = (false, eval e X.env) :: starEach es X.env := by rfl) (hpl : (backTo pos (starEach es X.env)).any (·.1) = false := by rfl) :
    PE X (.Call (.Name x p) (e :: es) [] pos) (tCall sp dvs E t) := by
  refine ⟨fun pins s σ H Q I h => ?_⟩
  refine wpAny_Call_Name_kw (ld_glob I hg hm ?_ hdb)
  refine PySem.W.callWith_K (h₀ := X.base) I.ok.mod.kin hk (thn (ha.run pos pins s σ H _ I h) fun us s1 ⟨vs, H1, I1, r, q⟩ => ⟨I1.kIn, ?_⟩) he hpl
  exact run_fnG F hr hgd hb hd hx I1 r q
/-! data with dicts -/
def kD : Key → PyData
  | .inl i => .int i
  | .inr x => .str x
mutual
inductive Dq (K : PySem.W.Frag) (H : Hp) : V → PyData → Prop
  | non : Dq K H .non .none
  | bl (b : Bool) : Dq K H (.bl b) (.bool b)
  | int (i : Int) : Dq K H (.int i) (.int i)
  | str (x : Str) : Dq K H (.str x) (.str x)
  | lst {a : Addr} {xs : List V} {ds : List PyData} (h : SqL K H a xs) (g : DqAll K H xs ds) : Dq K H (.ref a) (.list ds)
  | tup {a : Addr} {xs : List V} {ds : List PyData} (h : SqT K H a xs) (g : DqAll K H xs ds) : Dq K H (.ref a) (.tuple ds)
  | dct {a : Addr} {kvs : List (Key × V)} {ds : List (PyData × PyData)} (h : H a = some (.dK kvs)) (g : DqKv K H kvs ds) : Dq K H (.ref a) (.dict ds)
inductive DqAll (K : PySem.W.Frag) (H : Hp) : List V → List PyData → Prop
  | nil : DqAll K H [] []
  | cons {v : V} {vs : List V} {d : PyData} {ds : List PyData} (h : Dq K H v d) (g : DqAll K H vs ds) : DqAll K H (v :: vs) (d :: ds)
inductive DqKv (K : PySem.W.Frag) (H : Hp) : List (Key × V) → List (PyData × PyData) → Prop
  | nil : DqKv K H [] []
  | cons {k : Key} {v : V} {r : List (Key × V)} {d : PyData} {ds : List (PyData × PyData)} (h : Dq K H v d) (g : DqKv K H r ds) : DqKv K H ((k, v) :: r) ((kD k, d) :: ds)
end
theorem notMods {h h' : Heap} (hm : ∃ mm, h.Ns sysModules mm) (k : ∀ b o, h.get? b = some o → h'.get? b = some o) {a : Addr} {o : Obj} (e : h'.get? a = some o) (n : ∀ es ep, o.data ≠ .dict es ep) : ¬ sysModules = a := fun z => by
  obtain ⟨mm, o', es, ep, e', d, _⟩ := hm
  rw [← z, k _ _ e'] at e
  cases e
  exact n _ _ d
section
variable {pins : List (Addr × Obj)} {σ : L2.St} {H : Hp} {s : Shared}
mutual
theorem Dq.reads (I : Inv X pins σ H s) (hm : ∃ mm, X.base.Ns sysModules mm) : ∀ (d : PyData) (v : V) (u : Value), Dq X.K H v d → RelV v u → ∃ as, Reads s.heap u d as ∧ sysModules ∉ as
  | .none, _, _, h, r => by
    cases h; cases r
    exact ⟨_, Reads.none, by simp⟩
  | .bool b, _, _, h, r => by
    cases h; cases r
    exact ⟨_, Reads.bool b, by simp⟩
  | .int i, _, _, h, r => by
    cases h
    obtain ⟨t, rfl⟩ := r
    exact ⟨_, Reads.int i t, by simp⟩
  | .str x, _, _, h, r => by
    cases h
    obtain ⟨t, rfl⟩ := r
    exact ⟨_, Reads.str x t, by simp⟩
  | .list ds, _, _, h, r => by
    cases h with
    | lst h1 h2 =>
      cases r
      obtain ⟨its, rv, ⟨o, n, ho, hc, _, hd⟩, _⟩ := I.list h1
      obtain ⟨as, q1, q2⟩ := DqAll.readsN I hm ds _ its h2 rv
      refine ⟨_, .list ho hc hd q1, fun z => ?_⟩
      rcases List.mem_cons.mp z with z | z
      · exact notMods hm I.bk ho (fun es ep e => by rw [hd] at e; cases e) z
      · exact q2 z
  | .tuple ds, _, _, h, r => by
    cases h with
    | tup h1 h2 =>
      cases r
      obtain ⟨its, rv, ⟨o, ho, hc, n, hd⟩, _⟩ := I.tuple h1
      obtain ⟨as, q1, q2⟩ := DqAll.readsN I hm ds _ its h2 rv
      exact ⟨_, .tuple ho hc hd q1, q2⟩
  | .dict ds, _, _, h, r => by
    cases h with
    | dct h1 h2 =>
      cases r
      obtain ⟨_, ns, vs, rel, o, es, ep, ho, hx, hd, _, hp, _⟩ := dk_of I.hok h1
      obtain ⟨as, bs, q1, q2, q3, q4⟩ := DqKv.readsN I hm ds _ vs es.toList h2 rel hp
      refine ⟨_, .dict ho hx.1 hd q1 q2, fun z => ?_⟩
      rcases List.mem_append.mp z with z | z
      · rcases List.mem_cons.mp z with z | z
        · rw [← z] at ns
          exact absurd ns (by simp)
        · exact q3 z
      · exact q4 z
theorem DqAll.readsN (I : Inv X pins σ H s) (hm : ∃ mm, X.base.Ns sysModules mm) : ∀ (ds : List PyData) (vs : List V) (us : List Value), DqAll X.K H vs ds → Vals vs us → ∃ as, ReadsAll s.heap us ds as ∧ sysModules ∉ as
  | [], _, _, h, r => by
    cases h; cases r
    exact ⟨_, .nil, by simp⟩
  | d :: ds, _, _, h, r => by
    cases h with
    | cons h1 h2 =>
      cases r with
      | cons r1 r2 =>
        obtain ⟨as, q1, n1⟩ := Dq.reads I hm d _ _ h1 r1
        obtain ⟨bs, q2, n2⟩ := DqAll.readsN I hm ds _ _ h2 r2
        exact ⟨_, .cons q1 q2, fun z => (List.mem_append.mp z).elim n1 n2⟩
theorem DqKv.readsN (I : Inv X pins σ H s) (hm : ∃ mm, X.base.Ns sysModules mm) : ∀ (ds : List (PyData × PyData)) (kvs : List (Key × V)) (vs : List (Key × Value)) (es : List DictEntry), DqKv X.K H kvs ds → KV kvs vs → Pairs (mixKind X.prog X.w) es vs →
    ∃ as bs, ReadsAll s.heap (es.map (·.key)) (ds.map (·.1)) as ∧ ReadsAll s.heap (es.map (·.val)) (ds.map (·.2)) bs ∧ sysModules ∉ as ∧ sysModules ∉ bs
  | [], _, _, _, h, r, p => by
    cases h; cases r; cases p
    exact ⟨_, _, .nil, .nil, by simp, by simp⟩
  | d :: ds, _, _, _, h, r, p => by
    cases h with
    | @cons k v _ d _ h1 h2 =>
      cases r with
      | cons r1 r2 =>
        cases p with
        | @cons en _ _ _ p1 p2 p3 =>
          obtain ⟨as, q1, n1⟩ := Dq.reads I hm d _ _ h1 (p2 ▸ r1.2)
          obtain ⟨bs, cs, q2, q3, n2, n3⟩ := DqKv.readsN I hm ds _ _ _ h2 r2 p3
          have e1 : _ = _ := r1.1
          rw [← e1] at p1
          obtain ⟨zs, q4, n4⟩ : ∃ zs, Reads s.heap en.key (kD k) zs ∧ sysModules ∉ zs := by
            rcases keyIs_shape p1 with ⟨i, t, e2, e3⟩ | ⟨x, t, e2, e3⟩
            · subst e2
              exact ⟨[], by rw [e3]; exact Reads.int i t, by simp⟩
            · subst e2
              exact ⟨[], by rw [e3]; exact Reads.str x t, by simp⟩
          exact ⟨_, _, .cons q4 q2, .cons q1 q3, fun z => (List.mem_append.mp z).elim n4 n2, fun z => (List.mem_append.mp z).elim n1 n3⟩
end
end
/-- repr of data -/
theorem call_reprD (hgd : GdB X.A X.base) (hu : X.A.units + 64 < cLine) : CallR X (.builtin "repr") (fun xs H Q => ∃ (x : V) (dt : PyData), xs = [x] ∧ Dq X.K H x dt ∧ dt.showable = true ∧ dt.depth ≤ 60 ∧ dt.shown.length ≤ sizeLine ∧ Q (.str dt.shown) H) := by
  intro pins s σ H xs us Q I r h
  obtain ⟨x, dt, rfl, hD, h1, h3, h4, q⟩ := h
  obtain ⟨u, rfl, ru⟩ := vals1 r
  obtain ⟨as, hr, hn⟩ := Dq.reads I hgd.2 dt x u hD ru
  cases hD with
  | non =>
    cases (show u = Value.none from ru)
    exact PySem.P.repr_of_none ⟨.str _, H, I.tok _, ⟨_, rfl⟩, q⟩
  | bl b =>
    cases (show u = Value.bool b from ru)
    exact PySem.P.repr_of_bool ⟨.str _, H, I.tok _, ⟨_, rfl⟩, q⟩
  | int i =>
    obtain ⟨t, rfl⟩ := ru
    exact PySem.P.repr_of_int (of_decide_eq_true h1) ⟨.str _, H, I.tok _, ⟨_, rfl⟩, q⟩
  | str z =>
    obtain ⟨t, rfl⟩ := ru
    exact PySem.P.repr_of_str ⟨.str _, H, I.tok _, ⟨_, rfl⟩, q⟩ h4
  | lst _ _ =>
    cases ru
    exact repr_of_reads' hr h1 (fun _ => hn) hgd.1 (by omega) (fun _ _ e => e) (fun h' u tk hk => ⟨.str _, H, (I.kept (t' := tk) hk), ⟨_, rfl⟩, q⟩) h4
  | tup _ _ =>
    cases ru
    exact repr_of_reads' hr h1 (fun _ => hn) hgd.1 (by omega) (fun _ _ e => e) (fun h' u tk hk => ⟨.str _, H, (I.kept (t' := tk) hk), ⟨_, rfl⟩, q⟩) h4
  | dct _ _ =>
    cases ru
    exact repr_of_reads' hr h1 (fun _ => hn) hgd.1 (by omega) (fun _ _ e => e) (fun h' u tk hk => ⟨.str _, H, (I.kept (t' := tk) hk), ⟨_, rfl⟩, q⟩) h4
end
end
/-! ### the law is called: no guard is up -/
section
open PySem PySem.Spec PyProof.Rows L2
theorem law_callG {P : Program} {w : World} {K : PySem.W.Frag} {mg mb : Str → Option Value} {CX : CXT} {k : Nat} {fa a : Addr} {fd : FuncData} {x : Str} {sp : Sp} {s₁ : Shared} {vs : List Value} {ns : List Int}
    (KX : K.In s₁.heap) (hns : s₁.heap.Ns mainGlobals mg) (hb : s₁.heap.Ns builtinsNs mb) (hbb : ∀ x : Str, x ≠ "__name__" → mb x = bootBuiltins x) (hlim : s₁.heap.NoLimit) (hmods : ∃ mm, s₁.heap.Ns sysModules mm) (hg : s₁.gens = #[])
    (ha : s₁.heap.get? a = some { cls := .type "list", data := .seq vs.toArray }) (hi : IntsAre vs ns) (hl : ns.length ≤ sizeLine) (hr : Room k callerA)
    (F : ∀ base : Heap, K.In base → base.Ns mainGlobals mg → FnG P w K mg base CX k fa fd [x] sp) (hbind : ∀ (s : Shared) (u : Value), BindsTo s fd ⟨[u], []⟩ [(x, u)])
    (hsp : ∀ H : Hp, Only H → SqL K H a (ns.map V.int) → sp [.ref a] H (fun v _ => v = .bl true) fun _ _ _ => False)
    (hCX : ∀ H e s', CX [] H s₁ (fun _ _ _ => False) e s' → False) :
    codeAny (model P w) callerA (.call (.ref fa) ⟨[.ref a], []⟩) (fun r s' => r = .ok (.ret (.bool true)) ∧ OldK s₁.heap s'.heap ∧ s'.os = s₁.os ∧ AllBare s'.gens) s₁ := by
  have rv := vals_ints hi
  have lenV := hi.length
  -- from an abstract heap in which nothing but the script may be tracked
  have core : ∀ H : Hp, Only H → SqL K H a (ns.map V.int) → HOk P w H s₁.heap → (∀ b, H b ≠ none → b = a) → (H a ≠ none → K.lookup a = none) →
      codeAny (model P w) callerA (.call (.ref fa) ⟨[.ref a], []⟩) (fun r s' => r = .ok (.ret (.bool true)) ∧ OldK s₁.heap s'.heap ∧ s'.os = s₁.os ∧ AllBare s'.gens) s₁ := by
    intro H hO hS hok hA hK
    have base_of : ∀ {b : Addr} {o : Obj}, s₁.heap.get? b = some o → H b = none → (hidT s₁.heap H).get? b = some o := fun e n => hidT_get e n
    have noA : ∀ {b : Addr} {o : Obj} {es : Array DictEntry} {ep : Nat}, s₁.heap.get? b = some o → o.data = .dict es ep → H b = none := fun {b o es ep} e d => by
      cases q : H b with
      | none => rfl
      | some u =>
        have e' : b = a := hA b (by rw [q]; simp)
        subst e'
        rw [ha] at e; cases e
        have d' : Data.seq vs.toArray _ = Data.dict es ep := d
        cases d'
    have nsK : ∀ {b : Addr} {m : Str → Option Value}, s₁.heap.Ns b m → (hidT s₁.heap H).Ns b m := fun {b m} ⟨o, es, ep, e, d, r⟩ => ⟨o, es, ep, base_of e (noA e d), d, r⟩
    have hKb : K.In (hidT s₁.heap H) := fun b o e => base_of (KX b o e) (by
      cases q : H b with
      | none => rfl
      | some u =>
        have e' : b = a := hA b (by rw [q]; simp)
        subst e'
        rw [hK (by rw [q]; simp)] at e; cases e)
    have hM : Mod K mg (hidT s₁.heap H) := ⟨hKb, nsK hns, ⟨mb, nsK hb, hbb⟩, let ⟨mc, h1, h2⟩ := hlim; ⟨mc, nsK h1, h2⟩⟩
    have e0 : Env0 P w K mg (hidT s₁.heap H) callerA [] s₁ H := ⟨rfl, hM, fun b o e => of_hidT e, Nat.le_of_eq (hidT_size _ _), trivial, fun b hb => absurd (show b ∈ ([] : List Addr) from hb) (by simp), hok, .of_eq hg⟩
    refine codeAny_mono ((F _ hKb (nsK hns)).run callerA [] s₁ H ⟨[.ref a], []⟩ [.ref a] [.ref a] _ _ hr ⟨rfl, let ⟨mm, q⟩ := hmods; ⟨mm, nsK q⟩⟩ e0 (hbind s₁ (.ref a)) (.cons rfl .nil) (hsp H hO hS)) fun r s' h => ?_
    cases r with
    | error e => exact (hCX H e s' h).elim
    | ok fl =>
      cases fl with
      | next => exact False.elim h
      | brk => exact False.elim h
      | cont => exact False.elim h
      | ret u =>
        obtain ⟨v, H', os, bare, un, hok', r', q⟩ := h
        have q' : v = .bl true := q
        subst q'
        obtain rfl : u = Value.bool true := r'
        refine ⟨rfl, OldK.of_keep fun b o e => ?_, os, bare⟩
        cases q : H b with
        | none => exact un.keep b o e q (by intro z; exact absurd (show b ∈ ([] : List Addr) from z) (by simp)) (by simp)
        | some u =>
          rcases hO b with z | ⟨ob, xs, z⟩
          · rw [q] at z; cases z
          · have z2 := un.frzs b ob _ z
            obtain ⟨e1, _⟩ := hok b _ z
            obtain ⟨e2, _⟩ := hok' b _ z2
            rw [e] at e1; cases e1
            exact e2
  cases hk : K.lookup a with
  | some o =>
    -- the script is one of the module's own objects
    have e := KX a o hk
    rw [ha] at e
    cases e
    refine core (fun _ => none) (fun _ => .inl rfl) (.inr ⟨_, vs.toArray, _, hk, rfl, rfl, rfl, by rw [List.size_toArray, lenV]; exact hl, by simpa using rv⟩) (fun b u z => by have z' : (none : Option HO) = some u := z; cases z') (fun b z => absurd rfl z) fun z => absurd rfl z
  | none =>
    refine core (fun b => if b = a then some (.frz { cls := .type "list", data := .seq vs.toArray } (.lst (ns.map V.int))) else none) (fun b => ?_) (.inl (.inr ⟨{ cls := .type "list", data := .seq vs.toArray }, if_pos rfl⟩)) (fun b u z => ?_) (fun b z => ?_) fun _ => hk
    · by_cases hb : b = a
      · exact .inr ⟨_, _, if_pos hb⟩
      · exact .inl (if_neg hb)
    · by_cases hb : b = a
      · have z' := (if_pos hb).symm.trans z
        cases z'
        subst hb
        exact ⟨ha, by rw [List.length_map]; exact hl, vs, _, rv, ha⟩
      · have z' := (if_neg hb).symm.trans z
        cases z'
    · by_cases hb : b = a
      · exact hb
      · exact absurd (if_neg hb) z
theorem walk_ofBG {l : PySem.W.OpenLaw} {n k : Nat} {q : Program} {loose : List Str} {XP : (Str → Option Value) → Heap → Prop} {YP : World → Heap → Prop} {d : DefRec} {K : Params → PySem.W.Frag} {CX : World → CXT} {sp : World → Sp} {x : Str}
    (hn : l.most = some n) (hn2 : n ≤ sizeLine) (hdf : d.params.defaults = []) (hi : importsNone q = true) (hr : Room k callerA)
    (hY : ∀ (w : World) (h : Heap), YP w h → (K w.params).In h)
    (F : ∀ (w : World) (mg : Str → Option Value) (fa : Addr) (h : Heap), (K w.params).In h → h.Ns mainGlobals mg → mg d.name = some (.ref fa) →
      ∃ fd : FuncData, (∀ (s : Shared) (u : Value), BindsTo s fd ⟨[u], []⟩ [(x, u)]) ∧
        ∀ base : Heap, (K w.params).In base → base.Ns mainGlobals mg → FnG l.prog w (K w.params) mg base (CX w) k fa fd [x] (sp w))
    (hsp : ∀ (w : World) (H : Hp) (a : Addr) (ns : List Int), ns.length ≤ n → (∀ z ∈ ns, Builtin.Int.intBits z ≤ 1048576) → Only H → SqL (K w.params) H a (ns.map V.int) → sp w [.ref a] H (fun v _ => v = .bl true) fun _ _ _ => False)
    (hCX : ∀ (w : World) (H : Hp) (s : Shared) (e : Value) (s' : Shared), CX w [] H s (fun _ _ _ => False) e s' → False) :
    PySem.W.WalkO q loose XP YP l.row.toRowW d [] (fun f vs => PySem.call f vs) := by
  refine Att.attach_callB hn hdf fun w s₀ s₁ mg mb fa o pm cd doc a vs ns G Y ho hd hcd hmg hobj hints hlen hbits hg => ?_
  have KX := hY w _ Y
  obtain ⟨fd, hb, hF⟩ := F w mg fa _ KX G.T.g hmg
  exact law_callG KX G.T.g G.T.b G.T.builtins G.T.nolimit (let ⟨mm, q, _⟩ := (G.T.seer hi).mods; ⟨mm, q⟩) hg hobj hints (Nat.le_trans hlen hn2) hr hF hb (fun H hO hS => hsp w H a ns hlen hbits hO hS) fun H e s' => hCX w H s₁ e s'
end
/-! ### what is never reached -/
section
variable {X : Cx}
theorem ps_no {st : Stmt} : PS X st (fun _ _ _ => False) := ⟨fun _ _ _ _ _ _ h => h.elim⟩
theorem xfc {P : Program} {K : PySem.W.Frag} {C fI : Addr} {st : Stmt} {q : Str} {ps : List Str} {fs : List (Str × Sum Nat Str)} (T : ErrC P K C fI st q ps fs) : XfC K C := ⟨T.ga, T.gg, T.exC, T.hdC⟩
end
theorem for_nil {K : PySem.W.Frag} {a : Addr} {g : TG} {tb : TS} {D : Ends} {σ : L2.St} {H : Hp} (hl : SqL K H a []) (hd : D.nx σ H) :
    ∃ W : Nat → Nat → L2.St → Hp → Prop, (∃ m, W 0 m σ H) ∧ ∀ i m σ H, W i m σ H →
      ((Itl K a).stop i H ∧ D.nx σ H) ∨ ((Itl K a).go i H ∧ ∃ N : L2.St → Hp → Prop, (∀ σ' H', N σ' H' → ∃ m', m' < m ∧ W (i + 1) m' σ' H') ∧ ∀ x H', (Itl K a).yld i H x H' → g x σ H' fun σ2 H2 => tb { D with nx := N, ct := N, bk := D.nx } σ2 H2) :=
  for_list (xs := []) (fun _ σ' H' => σ' = σ ∧ H' = H) ⟨rfl, rfl⟩ (fun i σ' H' _ p => p.2 ▸ hl) (fun i x σ' H' e _ => by simp at e) (fun σ' H' p => by rw [p.1, p.2]; exact hd)
/-! ### o.m(e, .., k = v, ..), with a wish by the slots -/
section
open PySem PySem.Spec PyProof.Rows
variable {X : Cx} {CX : CXT} {k n : Nat} {f C : Addr} {fd : FuncData} {ps ks : List Str} {sp : Sp} {E : L2.St → XK} {m : Str} {pos apos : Pos} {e o : Expr} {es : List Expr} {kws : List Keyword} {ta : TE} {t tk : TA} {g : List Value → List Value → List Value} {gV : List V → List V → List V}
def tMethK (C : Addr) (m : Str) (n j : Nat) (sp : Sp) (gV : List V → List V → List V) (E : L2.St → XK) (to : TE) (ta tk : TA) : TE := fun σ H Q => to σ H fun x H1 => ∃ a dx fs, x = .ref a ∧ H1 a = some (.ins C dx fs) ∧ fs.lookup m = none ∧ ta σ H1 fun vs H2 => tk σ H2 fun zs H3 => vs.length = n ∧ zs.length = j ∧ sp (gV (.ref a :: vs) zs) H3 Q (E σ)
theorem run_kw {pins : List (Addr × Obj)} {σ : L2.St} {H : Hp} {s : Shared} {Q : VK} {us ws : List Value} {vs zs : List V} (F : FnOk X.prog X.w X.K X.mg X.base CX k f fd ps sp) (hr : Room k X.A) (hb : KBn X.K fd ps n ks g gV) (hx : PassesAt CX X σ (E σ))
    (I : Inv X pins σ H s) (r : Vals vs us) (rz : Vals zs ws) (l1 : vs.length = n) (l2 : zs.length = ks.length) (h : sp (gV vs zs) H Q (E σ)) : wpAny (model X.prog X.w) X.A (call (.ref f) us (ks.zip ws)) (EP X pins σ Q) X.xe s := by
  have bt := hb.to s us ws I.kIn (r.length.symm.trans l1) (rz.length.symm.trans l2)
  refine wpAny_call (codeAny_mono (F.run X.A X.stack s H ⟨us, ks.zip ws⟩ (g us ws) (gV vs zs) Q (E σ) hr I.env0 bt (hb.rel r rz) h) fun q s' hq => ?_)
  match q, hq with
  | .error e, hq => exact hx pins H s e s' I hq
  | .ok (.ret u), hq => exact I.after hq
  | .ok .next, hq => exact hq.elim
  | .ok .brk, hq => exact hq.elim
  | .ok .cont, hq => exact hq.elim
theorem pe_methK {pl : Sem Bool} (ho : PE X o ta) (c : Cls X.K C) (hm : Meth X.K C m f) (F : FnOk X.prog X.w X.K X.mg X.base CX k f fd ps sp) (hr : Room k X.A) (hb : KBn X.K fd ps (n + 1) ks g gV) (hx : ∀ σ, PassesAt CX X σ (E σ)) (ha : PA X (e :: es) t) (hkw : PK X kws tk)
    (hall : (backToKw pos (keywordEach kws X.env)).all (·.1.isSome) = true := by rfl) (hks : (backToKw pos (keywordEach kws X.env)).filterMap (·.1) = ks := by rfl)
    (hst : starEach (e :: es) X.env = (false, eval e X.env) :: starEach es X.env := by rfl) (hpl : ((backTo pos (starEach (e :: es) X.env)).any (·.1) || (backToKw pos (keywordEach kws X.env)).any (·.1.isNone)) = false := by rfl)
    (ht : eval (.Call (.Attribute o m apos) (e :: es) kws pos) X.env = (do
      let ov ← eval o X.env
      standAt apos.atName
      let (f, first) ← holding [ov] (getMethod ov m pl)
      callWith pos f first (backTo pos (starEach (e :: es) X.env)) (backToKw pos (keywordEach kws X.env))) := by rfl) :
    PE X (.Call (.Attribute o m apos) (e :: es) kws pos) (tMethK C m n ks.length sp gV E ta t tk) := by
  refine ⟨fun pins s σ H Q I h => ?_⟩
  refine PySem.W.methodCall_KW (pl := pl) (thn (ho.run pins s σ H _ I h) fun u s1 ⟨x, H1, I1, rx, a, dx, fs, ex, ea, l, q⟩ => ?_) ht
  subst ex
  cases (show u = Value.ref a from rx)
  refine getmeth_ok I1 ea c hm l (PySem.W.callWith_KW (first := [.ref a]) (h₀ := X.base) I.ok.mod.kin hm.kp hall (thn (ha.run pos pins s1 σ H1 _ I1 q) fun us s2 ⟨vs, H2, I2, r, q2⟩ => ?_) hpl hst)
  refine thn (hkw.run pos pins s2 σ H2 _ I2 q2) fun ws s3 ⟨zs, H3, I3, rz, l1, l2, q3⟩ => ⟨I3.kIn, ?_⟩
  rw [hks]
  exact run_kw (us := .ref a :: us) (vs := .ref a :: vs) F hr hb (hx σ) I3 (.cons rfl r) rz (congrArg Nat.succ l1) l2 q3
end
/-! ### defs called while an exception is handled: its object stands aside -/
section
open PySem PySem.Spec PyProof.Rows
structure FnP (P : Program) (w : World) (K : PySem.W.Frag) (mg : Str → Option Value) (base : Heap) (CX : CXT) (k : Nat) (f : Addr) (fd : FuncData) (ps : List Str) (sp : Sp) : Prop where
  len : ∀ vs H Q E, sp vs H Q E → vs.length = ps.length
  run : ∀ (A : Around) (outer : List Env) (s : Shared) (H : Hp) (args : Args) (us : List Value) (vs : List V) (Q : VK) (E : XK) (p : Addr × Obj), L2H.RoomH k A → L2H.PinOk outer H s p → Env0 P w K mg base A outer s H → BindsTo s fd args (ps.zip us) → Vals vs us → sp vs H Q E →
    codeAny (model P w) A (.call (.ref f) args) (CR CX outer P w H s Q E) s
theorem fn_ofP {CX : CXT} {P : Program} {w : World} {K : PySem.W.Frag} {mg : Str → Option Value} {base : Heap} {k : Nat} {f : Addr} {name qual : Str} {params : Arguments} {body : List Stmt} {scope : Scope} {dV kV doc pm cdv ct oc : Value} {an od : Option Addr}
    {osl : Array (Option Value)} {N ps : List Str} {sp : Sp} (lk : K.lookup f = some ⟨oc, od, .func (PySem.W.fnOf name qual params body scope dV kV doc pm an cdv ct), osl⟩) (hcd : PySem.W.codeIn K cdv qual = true) (S : FnScope N ps scope)
    (len : ∀ vs H Q E, sp vs H Q E → vs.length = ps.length)
    (hbody : ∀ (A : Around) (outer : List Env) (s : Shared) (H : Hp) (vs : List V) (Q : VK) (E : XK) (p : Addr × Obj), L2H.RoomH k (A.deeper (envOfC qual scope s.heap.objs.size f cdv)) → sp vs H Q E →
      ∃ t, PSs (L2H.cxH CX P w K mg base N qual scope f cdv A outer s H E p) body t ∧ t { nx := fun _ H' => Q .non H', rt := Q } (L2.start N vs) H) :
    FnP P w K mg base CX (k + 1) f (PySem.W.fnOf name qual params body scope dV kV doc pm an cdv ct) ps sp := by
  refine ⟨len, fun A outer s H args us vs Q E p hr hp e0 hb r hsp => ?_⟩
  have kk : ∀ b o, base.get? b = some o → s.heap.get? b = some o := fun b o e => (e0.bs b o e).1
  have KX : K.In s.heap := e0.mod.kin.keeps kk
  have hk2 : ∀ y ∈ ps.zip us, scope.names.lookup y.1 = some .local ∨ (scope.names.lookup y.1 = some .cell ∧ ((cellsFrom (s.heap.objs.size + 1) scope.names []).lookup y.1).isSome = true) := fun y hy =>
    (S.par y.1 (List.of_mem_zip (a := y.1) (b := y.2) hy).1).imp id fun q => ⟨q, PySem.W.cellsFrom_some _ _ _ (.inl q)⟩
  refine codeAny_call_function hr.depth (KX _ _ lk) rfl S.co S.gen rfl (PySem.W.codeRec_of KX hcd) (hb _ _ _ _ (wpAny_newFunctionEnv_cells S.kind hk2 fun env he s1 x => ?_))
  subst he
  refine ⟨(e0.mod.nolimit.keeps kk).keeps x.toInCall.keep, codeAny_func ?_⟩
  obtain ⟨t, ht, hq⟩ := hbody A outer s H vs Q E p (hr.deeper _) hsp
  refine wpAny_mono (ht.run [] s1 _ H _ (L2H.inv_startH S hp e0 (len _ _ _ _ hsp) r x) hq) (fun fl s' hs => ?_) fun e s' hs => hs
  match fl, hs with
  | .ret u, ⟨v, σ', H', J, rv, q⟩ => exact ⟨v, H', J.os, J.bare, J.base, J.hok, rv, q⟩
  | .next, ⟨σ', H', J, q⟩ => exact ⟨.non, H', J.os, J.bare, J.base, J.hok, rfl, q⟩
  | .brk, ⟨_, _, _, q⟩ => exact q.elim
  | .cont, ⟨_, _, _, q⟩ => exact q.elim
theorem okP {P : Program} {w : World} {K : PySem.W.Frag} {mg : Str → Option Value} {base : Heap} {x qual : Str} {st : Stmt} {f : Addr} {fd : FuncData} {N ps : List Str} {k : Nat} {sp : Sp} (F : L2.Fun K x qual st f fd) (S : FnScope N ps (defScope st)) (len : ∀ vs H Q E, sp vs H Q E → vs.length = ps.length)
    (hbody : ∀ (cdv : Value) (A : Around) (outer : List Env) (s : Shared) (H : Hp) (vs : List V) (Q : VK) (E : XK) (p : Addr × Obj), L2H.RoomH k (A.deeper (envOfC qual (defScope st) s.heap.objs.size f cdv)) → sp vs H Q E →
      ∃ t, PSs (L2H.cxH CX0 P w K mg base N qual (defScope st) f cdv A outer s H E p).nox (defBody st) t ∧ t { nx := fun _ H' => Q .non H', rt := Q } (L2.start N vs) H) : FnP P w K mg base CX0 (k + 1) f fd ps sp := by
  obtain ⟨oc, od, kV, doc, pm, an, cdv, ct, osl, rfl, lk, hcd⟩ := F.ex
  refine fn_ofP lk hcd S len fun A outer s H vs Q E p hr hsp => ?_
  obtain ⟨t, h, q⟩ := hbody cdv A outer s H vs Q E p hr hsp
  exact ⟨t, h.nox, q⟩
section
variable {X : Cx} {CX : CXT} {k : Nat} {C p g a dx : Addr} {fs : List (Str × V)} {f : Str} {fd : FuncData} {ps : List Str} {sp : Sp} {dvs : List V} {ds : List Value} {E : XK} {e : Expr} {pos : Pos} {ta : TE}
/-- the exception that is handled stands aside here -/
def Aside (X : Cx) : Prop := ∃ q : Addr × Obj, q ∈ X.pn
theorem Aside.pin {pins : List (Addr × Obj)} {σ : L2.St} {H : Hp} {s : Shared} (h : Aside X) (I : Inv X pins σ H s) : ∃ q, L2H.PinOk X.stack H s q := by
  obtain ⟨q, hq⟩ := h
  obtain ⟨p1, p2, p3, p4, p5⟩ := I.pin q (List.mem_append_left _ hq)
  exact ⟨q, p1, p2, fun hm => (List.mem_cons.mp (I.stkSub q.1 hm)).elim p3 p4, p5⟩
/-- e.f, a property, there -/
theorem pe_propP (he : PE X e ta) (c : Cls X.K C) (hp : PropOf X.K C f p g) (F : FnP X.prog X.w X.K X.mg X.base CX0 k g fd ps sp) (hr : L2H.RoomH (k + 1) X.A) (hs : Aside X) (hb : Binds X.K fd ps ds) (hd : Vals dvs ds)
    (hab : attributeBase e f X.env (eval e X.env) = eval e X.env) : PE X (.Attribute e f pos) (tProp C sp dvs E0 ta) := by
  refine ⟨fun pins s σ H Q I h => ?_⟩
  refine attr_of hab (thn (he.run pins s σ H _ I h) fun u s1 ⟨x, H1, I1, rx, a, dx, fs, ex, ea, q⟩ => ?_)
  subst ex
  cases (show u = Value.ref a from rx)
  obtain ⟨mA, O, _, _, _, _⟩ := ins_get I1.hok ea
  obtain ⟨od, J, _⟩ := O.look
  obtain ⟨rest, hrec⟩ := hp.rec_
  have I2 := I1.tok (s1.toks + 1)
  obtain ⟨pq, hpq⟩ := hs.pin I2
  have hl : ([Value.ref a] ++ ds).length = ps.length := by
    have l1 := F.len _ _ _ _ q
    have l2 := hd.length
    simp only [List.length_append, List.length_cons, List.length_nil] at l1 ⊢
    omega
  have hc : (PySem.W.clsIn X.K C).isSome = true := by
    obtain ⟨cd, hc, _⟩ := PySem.W.any_some c.hd
    rw [hc]; rfl
  have pg := PySem.W.plainGet_of (c.get f)
  refine PySem.W.get_bind I1.kIn J pg.1 (PySem.W.findObj_data hc hp.at_ hp.get hp.tak) pg.2 (wpAny_call (PySem.W.prop_get (s := { s1 with toks := s1.toks + 1 }) I1.kIn hrec ?_))
  refine codeAny_mono (F.run X.A.in1 X.stack { s1 with toks := s1.toks + 1 } H1 ⟨[.ref a], []⟩ (.ref a :: ds) (.ref a :: dvs) Q _ pq ⟨by have := hr.dp; show X.A.depth + 3 * k + 5 < _; omega, by have := hr.un; show X.A.units + 1 + 16 * k + 200 < _; omega⟩ hpq I2.env0.in1 (hb _ [.ref a] I2.kIn hl) (.cons rfl hd) q) fun r s' hq => ?_
  match r, hq with
  | .error er, hq => exact hq.elim
  | .ok (.ret u), hq =>
    obtain ⟨v, H', I3, rv, q3⟩ := I2.after hq
    show wpAny _ _ (handedOut u) _ _ _
    rw [PySem.W.handedOut_of (handed_of rv)]
    exact wpAny_pure ⟨v, H', I3, rv, q3⟩
  | .ok .next, hq => exact hq.elim
  | .ok .brk, hq => exact hq.elim
  | .ok .cont, hq => exact hq.elim
end
end
/-! ### sets of texts -/
section
open PySem PySem.Spec PyProof.Rows
def keyT (e : Int × Value) : Str := match e.2 with
  | .str k _ => k
  | _ => Str.empty
/-- a table with the texts l, each once -/
structure TsOk (w : World) (es : Array (Int × Value)) (t : SetTable) (l : List Str) : Prop where
  good : ∀ e ∈ es.toList, ∃ k u, e = (hashStr w k, Value.str k u)
  perm : (es.toList.map keyT).Perm l
  nd : l.Nodup
  few : es.size < scanBound
  fit : t.fits es.size = true
  ris : L2.Ris t.place.toList
  led : w.params.followText "set-order" = true ∨ t.led = true
def TSet (w : World) (h : Heap) (a : Addr) (l : List Str) : Prop := ∃ o es ep t, h.get? a = some o ∧ o.ExactSet ∧ o.data = .set es ep t ∧ TsOk w es t l
section
variable {P : Program} {w : World} {h h' : Heap} {a : Addr} {l : List Str} {es : Array (Int × Value)} {t : SetTable}
theorem TSet.at (R : TSet w h a l) (k : ∀ o, h.get? a = some o → h'.get? a = some o) : TSet w h' a l := by
  obtain ⟨o, es, ep, t, ho, r⟩ := R
  exact ⟨o, es, ep, t, k o ho, r⟩
theorem str_isS (k : Str) (u : Tok) : (PySem.strKind P w).is k (.str k u) = true := by
  show Value.isStrOf k (.str k u) = true
  simp [Value.isStrOf]
theorem TsOk.elems (T : TsOk w es t l) : ElemsOf (PySem.strKind P w) es.toList := fun e he => by
  obtain ⟨k, u, rfl⟩ := T.good e he
  exact ⟨⟨k, str_isS k u, rfl⟩, rfl⟩
theorem TsOk.size (T : TsOk w es t l) : es.size = l.length := by
  have := T.perm.length_eq
  rwa [List.length_map, Array.length_toList] at this
theorem TsOk.is (T : TsOk w es t l) {e : Int × Value} (he : e ∈ es.toList) (k : Str) : (PySem.strKind P w).is k e.2 = true ↔ keyT e = k := by
  obtain ⟨j, u, rfl⟩ := T.good e he
  constructor
  · intro q
    exact ((PySem.strKind P w).inj (.str j u) k j q (str_isS j u)).symm
  · rintro rfl
    exact str_isS j u
theorem TsOk.mem (T : TsOk w es t l) (k : Str) : k ∈ l ↔ ∃ e ∈ es.toList, (PySem.strKind P w).is k e.2 = true := by
  rw [← T.perm.mem_iff, List.mem_map]
  exact ⟨fun ⟨e, he, q⟩ => ⟨e, he, (T.is he k).2 q⟩, fun ⟨e, he, q⟩ => ⟨e, he, (T.is he k).1 q⟩⟩
theorem TSet.setOf (R : TSet w h a l) : h.SetOf (PySem.strKind P w) a (fun k => decide (k ∈ l)) l.length := by
  obtain ⟨o, es, ep, t, ho, hx, hd, T⟩ := R
  exact ⟨o, es, ep, t, ho, hx, hd, T.elems, fun k => by rw [decide_eq_true_eq]; exact T.mem k, T.few, T.fit, T.size⟩
theorem TsOk.relay (T : TsOk w es t l) : TsOk w (relayAll t es (SetTable.grown es.size)).1 (relayAll t es (SetTable.grown es.size)).2.1 l := by
  have pm := relayAll_perm t es (SetTable.grown es.size)
  have hs : (relayAll t es (SetTable.grown es.size)).1.size = es.size := by rw [← Array.length_toList, pm.length_eq, Array.length_toList]
  exact ⟨fun e he => T.good e (pm.mem_iff.mp he), (pm.map keyT).trans T.perm, T.nd, by rw [hs]; exact T.few, relayAll_fits t es _, L2.relayAll_ris t es _, T.led.imp id fun z => by rw [L2.relayAll_led]; exact z⟩
theorem TsOk.off (T : TsOk w es t l) : TsOk w es { t with plain := false } l := ⟨T.good, T.perm, T.nd, T.few, SetTable.fits_plain_off T.fit, T.ris, T.led⟩
theorem TsOk.lay (T : TsOk w es t l) {k : Str} (u : Tok) (hk : k ∉ l) (room : l.length + 1 < scanBound) : TsOk w (layNew t es (hashStr w k) (.str k u)).1 (layNew t es (hashStr w k) (.str k u)).2.1 (k :: l) := by
  have pm := layNew_perm t es (hashStr w k) (.str k u)
  rw [Array.toList_push] at pm
  have pc := pm.trans (List.perm_append_singleton _ _)
  have pk : _ = _ := (pc.map keyT).length_eq
  have hs : (layNew t es (hashStr w k) (.str k u)).1.size = l.length + 1 := by
    rw [← Array.length_toList, pc.length_eq, List.length_cons, Array.length_toList, T.size]
  refine ⟨fun e he => ?_, (pc.map keyT).trans (T.perm.cons _), List.nodup_cons.mpr ⟨hk, T.nd⟩, by rw [hs]; exact room, layNew_fits t es _ _, L2.layNew_ris t es _ _ T.ris, T.led.imp id fun z => by rw [L2.layNew_led]; exact z⟩
  rcases List.mem_cons.mp (pc.mem_iff.mp he) with z | z
  · exact ⟨k, u, z⟩
  · exact T.good e z
theorem TSet.new (w : World) (h : Heap) : TSet w (h.push { cls := .type "set", dict := none, data := .set #[] 0 (.fresh 0 0 (!w.params.followText "set-order")) }) h.objs.size [] := by
  refine ⟨_, #[], 0, _, Heap.get?_push_size _ rfl, ⟨rfl, rfl, rfl⟩, rfl, (fun e he => by simp at he), by simp, List.nodup_nil, by decide, by rfl, List.Pairwise.nil, ?_⟩
  show _ ∨ (!w.params.followText "set-order") = true
  cases w.params.followText "set-order" <;> simp
end
/-- with k -/
def addT (k : Str) (l : List Str) : List Str := if k ∈ l then l else k :: l
theorem addT_mem {k j : Str} {l : List Str} : j ∈ addT k l ↔ j = k ∨ j ∈ l := by
  unfold addT
  split
  · rename_i h
    exact ⟨.inr, fun z => z.elim (fun e => e ▸ h) id⟩
  · exact List.mem_cons
theorem addT_nd {k : Str} {l : List Str} (h : l.Nodup) : (addT k l).Nodup := by
  unfold addT
  split
  · exact h
  · rename_i q
    exact List.nodup_cons.mpr ⟨q, h⟩
theorem addT_len {k : Str} {l : List Str} : (addT k l).length ≤ l.length + 1 := by
  unfold addT
  split <;> simp
section
variable {P : Program} {w : World} {A : Around} {E : Value → Shared → Prop} {s : Shared} {a : Addr} {l : List Str}
theorem ts_tail {g : Bool → Sem Unit} (hg : ∀ (b : Bool) (z : Shared) (q : Unit → Shared → Prop), q () z → wpAny (model P w) A (g b) q E z) {o : Obj} {es es1 : Array (Int × Value)} {ep : Nat} {t t2 : SetTable} (ho : s.heap.get? a = some o) (hex : o.ExactSet) (hd : o.data = .set es ep t)
    (T : TsOk w es1 t2 l) {wd : Bool} {R : Option Bool → Shared → Prop} (hR : ∀ h', Heap.SameBut a s.heap h' → TSet w h' a l → R (some true) { s with heap := h' }) :
    wpAny (model P w) A (do
        storeSet a es1 t2
        if (!wd && t2.tooFull) = true then do
            g (relayAll t2 es1 (SetTable.grown es1.size)).2.2
            storeSet a (relayAll t2 es1 (SetTable.grown es1.size)).1 (relayAll t2 es1 (SetTable.grown es1.size)).2.1
            pure (some true)
          else pure (some true)) R E s := by
  have sb := Heap.SameBut.update s.heap a (Obj.putSet es1 t2)
  have ho1 := L2.store_at (es' := es1) (t' := t2) ho hd
  refine wpAny_bind (wpAny_storeSet_of ho hd ?_ (fits_of_scanBound T.few))
  split
  · have T2 := T.relay
    generalize relayAll t2 es1 (SetTable.grown es1.size) = Z at T2 ⊢
    obtain ⟨es2, t3, gv⟩ := Z
    dsimp only at T2 ⊢
    refine wpAny_bind (hg _ _ _ (wpAny_bind (wpAny_storeSet_of ho1 rfl ?_ (fits_of_scanBound T2.few))))
    exact wpAny_pure (hR _ (sb.trans (Heap.SameBut.update _ a _)) ⟨_, es2, _, t3, L2.store_at (es' := es2) (t' := t3) ho1 rfl, hex, rfl, T2⟩)
  · exact wpAny_pure (hR _ sb ⟨_, es1, _, t2, ho1, hex, rfl, T⟩)
theorem ts_addH {k : Str} {u : Tok} {Q : Bool → Shared → Prop} (R : TSet w s.heap a l) (room : l.length + 1 < scanBound) (hQ : ∀ h' b, Heap.SameBut a s.heap h' → TSet w h' a (addT k l) → Q b { s with heap := h' }) :
    wpAny (model P w) A (setAddHashed a (.str k u) ((PySem.strKind P w).hash k)) Q E s := by
  obtain ⟨o, es, ep, t, ho, hex, hd, T⟩ := R
  have hel : ElemsOf (PySem.strKind P w) es.toList := T.elems
  have hgw : ∀ (b : Bool) (z : Shared) (q : Unit → Shared → Prop), q () z → wpAny (model P w) A (match b with | true => rule "set.scan.the-table-gave-way" | false => pure ()) q E z := fun b z q hq => by
    cases b
    · exact wpAny_pure hq
    · exact wpAny_rule hq
  unfold setAddHashed setAddHashedIn
  refine wpAny_holding (wpAny_bind (wpAny_setState_of ho hd T.fit ?_))
  dsimp only
  rw [byScan_of (show (Value.str k u).scannable = true from rfl) T.few hel]
  simp only [↓reduceIte]
  unfold setAddByScan
  refine wpAny_bind (wpAny_bind (wpAny_rule (wpAny_bind (wpAny_setScan_of (str_isS k u) ho hd T.fit hel ?_))))
  cases hfi : List.findIdx? (fun e => (PySem.strKind P w).is k e.2) es.toList with
  | some j =>
    dsimp only
    obtain ⟨hj, pj, _⟩ := List.findIdx?_eq_some_iff_getElem.mp hfi
    have hk : k ∈ l := (T.mem (P := P) k).2 ⟨_, List.getElem_mem hj, pj⟩
    refine wpAny_pure (wpAny_pure (hQ s.heap _ (Heap.SameBut.refl a s.heap) ?_))
    rw [show addT k l = l from if_pos hk]
    exact ⟨o, es, ep, t, ho, hex, hd, T⟩
  | none =>
    dsimp only
    have hk : k ∉ l := fun z => by
      obtain ⟨e, he, q⟩ := (T.mem (P := P) k).1 z
      have c := List.findIdx?_eq_none_iff.mp hfi e he
      rw [q] at c; cases c
    rw [show addT k l = k :: l from if_neg hk] at hQ
    have T1 : TsOk w (layNew t es ((PySem.strKind P w).hash k) (.str k u)).1 (layNew t es ((PySem.strKind P w).hash k) (.str k u)).2.1 (k :: l) := T.lay u hk room
    generalize layNew t es ((PySem.strKind P w).hash k) (.str k u) = Z at T1 ⊢
    obtain ⟨es1, t1, wd, gv⟩ := Z
    dsimp only at T1 ⊢
    refine wpAny_bind (hgw _ _ _ ?_)
    split
    · refine wpAny_bind ?_
      rw [hashByValue_scannable 8 (x := Value.str k u) rfl]
      refine wpAny_pure (ts_tail (l := k :: l) ?_ ho hex hd ?_ fun h' sb r => ?_)
      · exact fun b z q hq => hgw b z q hq
      · split
        · exact T1
        · exact T1.off
      · dsimp only
        exact wpAny_pure (hQ h' _ sb r)
    · refine wpAny_bind (wpAny_pure ?_)
      simp only [↓reduceIte]
      refine ts_tail ?_ ho hex hd T1 fun h' sb r => ?_
      · exact fun b z q hq => hgw b z q hq
      · dsimp only
        exact wpAny_pure (hQ h' _ sb r)
end
end
/-! ### sets of texts, tracked: add, comprehensions, sorted -/
section
open PySem PySem.Spec PyProof.Rows
def TSO (w : World) (a : Addr) (l : List Str) : HO := .ext fun h => TSet w h a l
theorem tso_new {w : World} {P : Program} {H : Hp} {h : Heap} {a : Addr} {l : List Str} (R : TSet w h a l) : ObjOk P w H h a (TSO w a l) := by
  have ⟨o, _, _, _, ho, _⟩ := R
  exact ⟨R, ⟨o, ho⟩, fun _ _ q k => q.at k⟩
section
variable {X : Cx}
theorem tso_get {pins : List (Addr × Obj)} {σ : L2.St} {H : Hp} {s : Shared} {a : Addr} {l : List Str} (I : Inv X pins σ H s) (ha : H a = some (TSO X.w a l)) : TSet X.w s.heap a l := (I.hok a _ ha).1
theorem ts_add {pins : List (Addr × Obj)} {σ : L2.St} {H : Hp} {s : Shared} {E : Value → Shared → Prop} {D : Addr} {l : List Str} {k : Str} {u : Tok} {Q : Value → Shared → Prop} (I : Inv X pins σ H s) (hD : H D = some (TSO X.w D l)) (room : l.length + 1 < scanBound)
    (h : ∀ s', Inv X pins σ (upd H D (TSO X.w D (addT k l))) s' → Q .none s') : wpAny (model X.prog X.w) X.A (call (.builtin "set.add") [.ref D, .str k u]) Q E s := by
  have R := tso_get I hD
  have hS : s.heap.SetOf (PySem.strKind X.prog X.w) D (fun k => decide (k ∈ l)) l.length := R.setOf
  refine wpAny_call_entry F.slot_set_add hS.typeIs F.entry_set_add ?_ (F.args_set_add_2 _ _)
  unfold Builtin.«set.add» Builtin.Frozenset.oneOther
  simp only [List.isEmpty_nil, bind_assoc]
  unfold Builtin.Frozenset.addrOf setAdd
  refine wpAny_bind (wpAny_pure ?_)
  try dsimp only
  refine wpAny_bind (wpAny_pure ?_)
  try dsimp only
  refine wpAny_bind (wpAny_holding (wpAny_bind ((PySem.strKind X.prog X.w).pyHash (str_isS k u) (ts_addH (s := { s with toks := s.toks + 1 }) R room fun h' b sb new => ?_))))
  have he : ∃ v, h'.get? D = some v := let ⟨o, _, _, _, ho, _⟩ := new; ⟨o, ho⟩
  exact wpAny_pure ⟨_, rfl, h _ (I.write (e := D) (t' := s.toks + 1) (by rw [hD]; trivial) (.inl rfl) (fun b v hb hu => (sb.2 b hb).trans hu) he (tso_new new))⟩
/-- {elt for target in iter if ..}, elt a text: D the new set -/
def tScT (w : World) (wi : TI) (g : TG) (tt : TT) (te : TE) (vs : List Nat) : TE := fun σ H Q => wi σ H fun J H1 => ∀ D, H1 D = none → ∃ W : Nat → Nat → Hp → Prop, (∃ m, W 0 m (upd H1 D (TSO w D []))) ∧ ∀ i m H, W i m H →
  (J.stop i H ∧ Q (.ref D) H) ∨ (J.go i H ∧ ∃ Nx : Hp → Prop, (∀ H', Nx H' → ∃ m', m' < m ∧ W (i + 1) m' H') ∧ ∀ x H', J.yld i H x H' → g x (wipe σ vs) H' fun σ2 H2 => wipe σ2 vs = wipe σ vs ∧ tt σ2 H2 fun b H3 =>
    if b = true then te σ2 H3 fun y H4 => ∃ (c : Str) (l : List Str), y = .str c ∧ H4 D = some (TSO w D l) ∧ l.length + 1 < scanBound ∧ Nx (upd H4 D (TSO w D (addT c l))) else Nx H3)
theorem pe_scT {elt tg iter : Expr} {ifs : List Expr} {scope : Scope} {own : List (Str × Nat)} {pos : Pos} {wi : TI} {g : TG} {tt : TT} {te : TE} (hc : X.calm = true) (hN : X.N.Nodup) (hi : PI X tg iter wi) (ok : BlkOk X.N X.env.scope scope own)
    (hg : ∀ (s : Shared) (H : Hp) (C : Addr) (cl : List (Str × Addr)) (fp : List Addr), PG (X.blk s H scope (compEnvC scope cl C X.env) fp) tg g) (ht : ∀ (s : Shared) (H : Hp) (C : Addr) (cl : List (Str × Addr)) (fp : List Addr), PTs (X.blk s H scope (compEnvC scope cl C X.env) fp) ifs tt)
    (he : ∀ (s : Shared) (H : Hp) (C : Addr) (cl : List (Str × Addr)) (fp : List Addr), PE (X.blk s H scope (compEnvC scope cl C X.env) fp) elt te) (hs : ∀ x, foldedSetIterable iter X.env x = pure x := by intro _; rfl) :
    PE X (.SetComp elt [⟨tg, iter, ifs, 0⟩] scope pos) (tScT X.w wi g tt te (own.map (·.2))) := by
  refine ⟨fun pins s σ H Q I h => ?_⟩
  rw [PpSet.eval_SetComp]
  have fr : ∀ y ∈ scope.names, y.2 = .free → ∃ c, X.env.cells.lookup y.1 = some c := fun y hy e => (ok.free y hy e).elim (fun k => I.ok.has _ (.inl k)) fun k => I.ok.has _ (.inr k)
  refine wpAny_comprehension_free (use := none) rfl hs (closure_ok fr) ok.kind (fun y hy e => by rw [ok.uniq y hy, e]) (thn (hi.run pins s σ H _ I h) fun xv s1 hx => thn hx fun itv s2 h2 => ?_)
  obtain ⟨it, fp, tn, J, H2, rfl, I2, T, st2, f2, q⟩ := h2
  refine PpSet.newSet_ok (newEnv_comp ?_)
  generalize hD : s2.heap.objs.size = D
  obtain ⟨W, ⟨m0, w0⟩, turn⟩ := q D (I2.hok.fresh (Nat.le_of_eq hD))
  generalize hs3 : ({ s2 with heap := s2.heap.push { cls := .type "set", dict := none, data := .set #[] 0 (.fresh 0 0 (!X.w.params.followText "set-order")) } } : Shared) = s3
  have e3 : s3.heap = s2.heap.push { cls := .type "set", dict := none, data := .set #[] 0 (.fresh 0 0 (!X.w.params.followText "set-order")) } := by rw [← hs3]
  have I3 : Inv X pins σ (upd H2 D (TSO X.w D [])) s3 := by
    rw [← hs3]
    exact I2.laid (t' := s2.toks) (fun b o e => Heap.get?_push_of_some _ e) (Nat.le_of_eq hD) (hD ▸ tso_new (TSet.new X.w s2.heap))
  have f3 : ∀ b ∈ fp, FpOk X pins (upd H2 D (TSO X.w D [])) b ∧ b < s3.heap.objs.size := fun b hb => by
    obtain ⟨o, e, _⟩ := T.obj _ _ st2 b hb
    have lt := Heap.lt_size e
    refine ⟨⟨?_, (f2 b hb).2⟩, by rw [e3, Heap.size_push]; exact Nat.lt_succ_of_lt lt⟩
    rw [upd_ne (by rw [← hD]; exact Nat.ne_of_lt lt)]
    exact (f2 b hb).1
  have I4 := block_start I3 ok hN f3
  have pg := hg s3 (upd H2 D (TSO X.w D [])) s3.heap.objs.size (cellsFrom (s3.heap.objs.size + 1) scope.names (cloFrom X.env.cells scope.names [])) fp
  have pt := ht s3 (upd H2 D (TSO X.w D [])) s3.heap.objs.size (cellsFrom (s3.heap.objs.size + 1) scope.names (cloFrom X.env.cells scope.names [])) fp
  have pe := he s3 (upd H2 D (TSO X.w D [])) s3.heap.objs.size (cellsFrom (s3.heap.objs.size + 1) scope.names (cloFrom X.env.cells scope.names [])) fp
  have fin0 : ∀ s' m H', Inv X pins σ H' s' → Q (.ref D) H' → s'.heap.Ns s3.heap.objs.size m → FpOk X pins H' s3.heap.objs.size → compPost (model X.prog X.w) X.A X.xe none (EP X pins σ Q) (.ref D) s3.heap.objs.size (.ok .next) s' := fun s' m H' I' q hn f => by
    obtain ⟨f0, f1, f2, f3, f4, f5⟩ := f
    exact ⟨m, hn, fun h'' sb => ⟨.ref D, H', I'.turned (t' := s'.toks) (fun b o hb e => (sb.2 b hb).trans e) f0 f1 f3 f4 f5, rfl, q⟩⟩
  show codeAny _ _ (.compStart (.SetComp elt [⟨tg, iter, ifs, 0⟩] scope pos) 0 (.ref it) (.ref D) (compEnvC scope (cellsFrom (s3.heap.objs.size + 1) scope.names (cloFrom X.env.cells scope.names [])) s3.heap.objs.size X.env)) (compPost (model X.prog X.w) X.A X.xe none (EP X pins σ Q) (.ref D) s3.heap.objs.size) { s3 with heap := pushCells (s3.heap.push { cls := .type "dict", data := .dict #[] }) scope.names }
  have nfp : ∀ b ∈ fp, (upd H2 D (TSO X.w D [])) b = none := fun b hb => (f3 b hb).1.1
  have st3 : tn 0 s3.heap := T.keep _ _ _ st2 fun b _ o e => by rw [e3]; exact Heap.get?_push_of_some _ e
  generalize hce : compEnvC scope (cellsFrom (s3.heap.objs.size + 1) scope.names (cloFrom X.env.cells scope.names [])) s3.heap.objs.size X.env = ce at I4 pg pt pe ⊢
  have cL : ce.locals = s3.heap.objs.size := by subst hce; rfl
  generalize hH3 : upd H2 D (TSO X.w D []) = H3 at I3 I4 pg pt pe w0 nfp f3
  generalize hs4 : ({ s3 with heap := pushCells (s3.heap.push { cls := .type "dict", data := .dict #[] }) scope.names } : Shared) = s4 at I4 ⊢
  have st4 : tn 0 s4.heap := T.keep _ _ _ st3 fun b _ o e => by rw [← hs4]; exact pushCells_keeps _ _ _ _ (Heap.get?_push_of_some _ e)
  have stat : ∀ {σ' : L2.St} {H' : Hp} {s' : Shared}, Inv (X.blk s3 H3 scope ce fp) [] σ' H' s' → (∀ b ∈ fp, H' b = none) → ∀ b ∈ fp, FpOk (X.blk s3 H3 scope ce fp) [] H' b := fun {σ' H' s'} J hn b hb =>
    ⟨hn b hb, (J.ok.exf b hb).1, J.ok.exfs b hb, .inl hb, fun x c e => (J.ok.exf b hb).2 x c e, fun p hp => absurd (show p ∈ ([] : List (Addr × Obj)) ++ [] from hp) (by simp)⟩
  have loop : codeAny (model X.prog X.w) X.A (.compLoop (.SetComp elt [⟨tg, iter, ifs, 0⟩] scope pos) 0 (.ref it) (.ref D) ce) (compPost (model X.prog X.w) X.A X.xe none (EP X pins σ Q) (.ref D) s3.heap.objs.size) s4 := by
    refine PpSet.compLoopS_any (fun n s' => ∃ i H', Inv (X.blk s3 H3 scope ce fp) [] (wipe σ (own.map (·.2))) H' s' ∧ tn i s'.heap ∧ (∀ b ∈ fp, H' b = none) ∧ W i n H') ?_ m0 ⟨0, H3, I4, st4, nfp, w0⟩
    rintro n s5 ⟨i, H5, I5, st5, n5, w5⟩
    rcases turn i n H5 w5 with ⟨stop, qq⟩ | ⟨go, Nx, hNx, step⟩
    · refine thnF (T.done (X.blk s3 H3 scope ce fp) rfl rfl rfl hc i [] s5 _ H5 (fun _ _ => False) I5 (stat I5 n5) st5 stop) fun r s6 ⟨hr, I6⟩ => ?_
      subst hr
      have I7 : Inv X pins σ H5 s6 := I3.call' (ch := fp) I6.os I6.base I6.hok I6.bare fun b hb => let ⟨_, g1, _, g3, g4, g5⟩ := (f3 b hb).1; ⟨g3, g1, g4, g5⟩
      have nC : H5 ce.locals = none := I6.free
      obtain ⟨m, hn, _⟩ := I6.loc
      have hn : s6.heap.Ns ce.locals m := hn
      rw [cL] at hn nC
      exact fin0 s6 m H5 I7 qq hn (I3.fpOk (Nat.le_refl _) nC)
    · refine thnF (T.item (X.blk s3 H3 scope ce fp) rfl rfl rfl hc i [] s5 _ H5 (fun _ _ => False) I5 (stat I5 n5) st5 go) fun r s6 ⟨u, hr, h6⟩ => ?_
      subst hr
      refine thnF h6 fun _ s7 ⟨x, H7, I7, r7, y7, st7, n7⟩ => ?_
      refine thnF (pg.run _ s7 _ H7 x u _ (I7.pinned (stat I7 n7) (T.obj _ _ st7)) r7 (step x H7 y7)) fun _ s8 ⟨σ8, H8, I8, hw8, q8⟩ => ?_
      refine thnF (pt.run _ s8 σ8 H8 _ I8 q8) fun b s9 ⟨H9, I9, q9⟩ => ?_
      have back : ∀ {s' : Shared} {H' : Hp}, Inv (X.blk s3 H3 scope ce fp) ([] ++ pinsAt fp s7.heap) σ8 H' s' → Nx H' → ∃ m, m < n ∧ ∃ i H', Inv (X.blk s3 H3 scope ce fp) [] (wipe σ (own.map (·.2))) H' s' ∧ tn i s'.heap ∧ (∀ b ∈ fp, H' b = none) ∧ W i m H' := fun {s' H'} J nx => by
        obtain ⟨m', hm, w'⟩ := hNx H' nx
        have pin : ∀ b ∈ fp, ∀ o, s7.heap.get? b = some o → s'.heap.get? b = some o ∧ H' b = none := fun b hb o e =>
          let z := J.pin (b, o) (List.mem_append_right _ (List.mem_append_right _ (mem_pinsAt hb e))); ⟨z.1, z.2.1⟩
        refine ⟨m', hm, i + 1, H', (J.unpinned (pins := [])).weak (by rw [← hw8, wipe_length]) (fun j v e => ?_), T.keep _ _ _ st7 fun b hb o e => (pin b hb o e).1, fun b hb => ?_, w'⟩
        · rw [← hw8] at e
          exact (wipe_some e).1
        · obtain ⟨o, e, _⟩ := T.obj _ _ st7 b hb
          exact (pin b hb o e).2
      cases b with
      | false =>
        simp only [Bool.false_eq_true, if_false] at q9 ⊢
        exact back I9 q9
      | true =>
        simp only [if_true] at q9 ⊢
        refine thnF (pe.run _ s9 σ8 H9 _ I9 q9) fun z s10 ⟨yv, H10, I10, r10, c, l, ey, hD10, hz10, nx⟩ => ?_
        subst ey
        obtain ⟨tk, rfl⟩ := r10
        exact ts_add (X := X.blk s3 H3 scope ce fp) I10 hD10 hz10 fun s11 I11 => back I11 nx
  exact PpSet.codeAny_compStart_set loop (T.self X.A 0 _ _ _ st4 loop)
end
/-- over a list that the block leaves as it is -/
theorem sc_listT {w : World} {K : PySem.W.Frag} {a : Addr} {xs : List V} {g : TG} {tt : TT} {te : TE} {vs : List Nat} {σ : L2.St} {H1 : Hp} {D : Addr} {Qd : Hp → Prop} (Pv : Nat → Hp → Prop) (h0 : Pv 0 (upd H1 D (TSO w D []))) (hl : ∀ i H, i ≤ xs.length → Pv i H → SqL K H a xs)
    (hs : ∀ i x H, xs[i]? = some x → Pv i H → g x (wipe σ vs) H fun σ2 H2 => wipe σ2 vs = wipe σ vs ∧ tt σ2 H2 fun b H3 =>
      if b = true then te σ2 H3 fun y H4 => ∃ (c : Str) (l : List Str), y = .str c ∧ H4 D = some (TSO w D l) ∧ l.length + 1 < scanBound ∧ Pv (i + 1) (upd H4 D (TSO w D (addT c l))) else Pv (i + 1) H3) (hd : ∀ H, Pv xs.length H → Qd H) :
    ∃ W : Nat → Nat → Hp → Prop, (∃ m, W 0 m (upd H1 D (TSO w D []))) ∧ ∀ i m H, W i m H →
      ((Itl K a).stop i H ∧ Qd H) ∨ ((Itl K a).go i H ∧ ∃ Nx : Hp → Prop, (∀ H', Nx H' → ∃ m', m' < m ∧ W (i + 1) m' H') ∧ ∀ x H', (Itl K a).yld i H x H' → g x (wipe σ vs) H' fun σ2 H2 => wipe σ2 vs = wipe σ vs ∧ tt σ2 H2 fun b H3 =>
        if b = true then te σ2 H3 fun y H4 => ∃ (c : Str) (l : List Str), y = .str c ∧ H4 D = some (TSO w D l) ∧ l.length + 1 < scanBound ∧ Nx (upd H4 D (TSO w D (addT c l))) else Nx H3) := by
  refine ⟨fun i m H => m = xs.length - i ∧ i ≤ xs.length ∧ Pv i H, ⟨xs.length, (Nat.sub_zero _).symm, Nat.zero_le _, h0⟩, ?_⟩
  rintro i m H ⟨rfl, hi, p⟩
  have q := hl i H hi p
  rcases Nat.lt_or_ge i xs.length with lt | ge
  · refine .inr ⟨⟨xs, xs[i], q, by simp [lt]⟩, Pv (i + 1), fun H' p' => ⟨xs.length - (i + 1), by omega, rfl, lt, p'⟩, fun x H' y => ?_⟩
    obtain ⟨e, y⟩ := y
    subst e
    exact hs i x _ (y xs q) p
  · obtain rfl : i = xs.length := Nat.le_antisymm hi ge
    exact .inl ⟨⟨xs, q, Nat.le_refl _⟩, hd H p⟩
end
/-! ### sorted texts -/
section
open PySem PySem.Spec PyProof.Rows
/-- x stands ahead of y, or they are the same -/
def leT (x y : Str) : Prop := ¬ y.cps.toList < x.cps.toList
instance (x y : Str) : Decidable (leT x y) := inferInstanceAs (Decidable (¬ _))
theorem str_ext {x y : Str} (h : x.cps.toList = y.cps.toList) : x = y := by
  cases x
  cases y
  exact congrArg Str.mk (Array.toList_inj.mp h)
theorem nlt_irrefl : ∀ l : List Nat, ¬ l < l := List.lt_irrefl
theorem leT_refl (x : Str) : leT x x := List.lt_irrefl _
theorem leT_anti {x y : Str} (h : leT x y) (k : leT y x) : x = y := str_ext (List.le_antisymm (List.not_lt.mp h) (List.not_lt.mp k))
theorem leT_trans {x y z : Str} (h : leT x y) (k : leT y z) : leT x z := List.not_lt.mpr (List.le_trans (List.not_lt.mp h) (List.not_lt.mp k))
theorem leT_total (x y : Str) : leT x y ∨ leT y x := by
  rcases List.le_total x.cps.toList y.cps.toList with h | h
  · exact .inl (List.not_lt.mpr h)
  · exact .inr (List.not_lt.mpr h)
theorem rising_pw : ∀ (l : List Str) (p : Str), risingS p l = true → (p :: l).Pairwise leT
  | [], p, _ => by simp
  | x :: r, p, h => by
    have h1 : (leT p x) ∧ risingS x r = true := by
      unfold risingS at h
      rw [Bool.and_eq_true, PyProof.Rows.ltCps_eq, Bool.not_eq_true', decide_eq_false_iff_not] at h
      exact h
    have ih := rising_pw r x h1.2
    refine List.pairwise_cons.mpr ⟨fun y hy => ?_, ih⟩
    rcases List.mem_cons.mp hy with rfl | hy
    · exact h1.1
    · exact leT_trans h1.1 ((List.pairwise_cons.mp ih).1 y hy)
theorem sorted_pw {l : List Str} (h : sortedS l = true) : l.Pairwise leT := by
  cases l with
  | nil => exact .nil
  | cons x r => exact rising_pw r x h
theorem pw_unique : ∀ {l m : List Str}, l.Perm m → l.Pairwise leT → m.Pairwise leT → l = m
  | [], m, p, _, _ => (List.perm_nil.mp p.symm).symm
  | x :: l, m, p, hl, hm => by
    cases m with
    | nil => exact absurd (List.perm_nil.mp p) (by simp)
    | cons y m =>
      have e : x = y := by
        have h1 : x ∈ y :: m := p.mem_iff.mp List.mem_cons_self
        have h2 : y ∈ x :: l := p.mem_iff.mpr List.mem_cons_self
        rcases List.mem_cons.mp h1 with e | h1
        · exact e
        rcases List.mem_cons.mp h2 with e | h2
        · exact e.symm
        exact leT_anti ((List.pairwise_cons.mp hl).1 y h2) ((List.pairwise_cons.mp hm).1 x h1)
      subst e
      rw [pw_unique (List.perm_cons _ |>.mp p) (List.pairwise_cons.mp hl).2 (List.pairwise_cons.mp hm).2]
/-- sorted -/
def sortT (l : List Str) : List Str := l.mergeSort fun x y => decide (leT x y)
theorem sortT_perm (l : List Str) : (sortT l).Perm l := List.mergeSort_perm l _
theorem sortT_pw (l : List Str) : (sortT l).Pairwise leT := by
  have h := List.pairwise_mergeSort (le := fun x y => decide (leT x y)) (fun a b c h k => by
    rw [decide_eq_true_eq] at h k ⊢
    exact leT_trans h k) (fun a b => by
    rw [Bool.or_eq_true, decide_eq_true_eq, decide_eq_true_eq]
    exact leT_total a b) l
  exact h.imp fun h => of_decide_eq_true h
theorem sortT_of {l ys : List Str} (p : ys.Perm l) (h : sortedS ys = true) : ys = sortT l := pw_unique (p.trans (sortT_perm l).symm) (sorted_pw h) (sortT_pw l)
theorem sortT_congr {l m : List Str} (p : l.Perm m) : sortT l = sortT m := pw_unique ((sortT_perm l).trans (p.trans (sortT_perm m).symm)) (sortT_pw l) (sortT_pw m)
theorem sortT_mem {l : List Str} {k : Str} : k ∈ sortT l ↔ k ∈ l := (sortT_perm l).mem_iff
theorem sortT_len {l : List Str} : (sortT l).length = l.length := (sortT_perm l).length_eq
theorem nd_perm {l m : List Str} (hl : l.Nodup) (hm : m.Nodup) (h : ∀ k, k ∈ l ↔ k ∈ m) : l.Perm m := by
  rw [List.perm_iff_count]
  intro k
  rw [hl.count, hm.count]
  simp [h k]
theorem strs_ofV : ∀ (l : List Value), (∀ v ∈ l, ∃ k u, v = Value.str k u) → ∃ ss, StrsAre l ss ∧ l.map (fun v => keyT (0, v)) = ss
  | [], _ => ⟨[], .nil, rfl⟩
  | v :: l, h => by
    obtain ⟨k, u, rfl⟩ := h v List.mem_cons_self
    obtain ⟨ss, h1, h2⟩ := strs_ofV l fun x hx => h x (List.mem_cons_of_mem _ hx)
    exact ⟨k :: ss, .cons k u h1, by rw [List.map_cons, h2]; rfl⟩
section
variable {P : Program} {w : World} {A : Around} {E : Value → Shared → Prop} {s : Shared} {a : Addr} {l : List Str}
theorem ts_sorted {Q : Value → Shared → Prop} (R : TSet w s.heap a l) (hh : A.handled = none)
    (hQ : ∀ s' p (out : Array Value) (c : Nat), (∀ b o, s.heap.get? b = some o → s'.heap.get? b = some o) → s'.gens = s.gens → s'.os = s.os → s.heap.objs.size ≤ p → s'.heap.get? p = some (seqObj "list" out c) → StrsAre out.toList (sortT l) → Q (.ref p) s') :
    wpAny (model P w) A (call (.builtin "sorted") [.ref a]) Q E s := by
  obtain ⟨o, es, ep, t, ho, hex, hd, T⟩ := R
  refine Calls.call_function_entry kind_sorted plain_sorted entry_sorted (args_sorted1 _) ?_
  unfold Builtin.«sorted»
  refine wpAny_bind (m := checkCount "sorted" 1 1 _) (wpAny_pure (wpAny_bind (L2.collect_set (A := A.in1) hh ⟨o, ho, hex.1, hd⟩ T.fit T.few T.ris T.led fun s1 vs k1 hz g1 o1 pm => ?_)))
  obtain ⟨ss, hS, es'⟩ := strs_ofV vs fun v hv => by
    obtain ⟨e, he, q⟩ := List.mem_map.mp (pm.mem_iff.mp hv)
    obtain ⟨k, u, rfl⟩ := T.good e he
    exact ⟨k, u, q.symm⟩
  have ps : ss.Perm l := by
    have q := pm.map fun v => keyT (0, v)
    rw [es', List.map_map] at q
    exact q.trans T.perm
  have hv : vs.length = l.length := by rw [pm.length_eq, List.length_map, Array.length_toList, T.size]
  have hL : vs.length ≤ sizeLine := by rw [hv, ← T.size]; exact fits_of_scanBound T.few
  refine wpAny_bind (wpAny_newList ?_ hL)
  have hoL : (s1.heap.push (seqObj "list" vs.toArray 0)).get? s1.heap.objs.size = some (seqObj "list" vs.toArray 0) := Heap.get?_push_size _ rfl
  refine wpAny_bind (wpAny_holding (wpAny_call_entry slot_list_sort ⟨_, hoL, rfl⟩ entry_list_sort (list_sort_treeKAny strKind_oneLt hoL hS.keysOf (fun v₁ v₂ rest e => keyKind_strs (by rw [← e]; exact hS)) hL fun st' hp hs => ⟨_, rfl, ?_⟩) (args_list_sort _)))
  obtain ⟨ys, h1, h2, h3⟩ := sorted_out_str hS hp hs
  obtain ⟨c, hc⟩ := sortedHeap_at (vs := vs) (out := (arrOf st').map (·.2)) hoL
  rw [sortT_of (h2.trans ps) h3] at h1
  refine wpAny_pure ⟨_, rfl, hQ _ s1.heap.objs.size _ c (fun b u e => ?_) g1 o1 hz hc h1⟩
  have q := k1 b u e
  have lt := Heap.lt_size q
  show (sortedHeap (s1.heap.push (seqObj "list" vs.toArray 0)) s1.heap.objs.size vs _).get? b = some u
  rw [sortedHeap_old (Nat.ne_of_lt lt) (by rw [size_push']; exact Nat.lt_succ_of_lt lt)]
  exact Heap.get?_push_of_some _ q
end
section
variable {X : Cx}
/-- sorted(found) -/
theorem cr_sortTS (hc : X.calm = true) : CallR X (.builtin "sorted") (fun vs H Q => ∃ (a : Addr) (l : List Str), vs = [V.ref a] ∧ H a = some (TSO X.w a l) ∧ ∀ p, H p = none → Q (.ref p) (upd H p (.lst ((sortT l).map V.str)))) := by
  intro pins s σ H vs us Q I r h
  obtain ⟨a, l, rfl, ha, q⟩ := h
  have R := tso_get I ha
  rw [Vals.ref1 r]
  have hl : l.length ≤ sizeLine := by
    obtain ⟨o, es, ep, t, ho, hex, hd, T⟩ := R
    rw [← T.size]; exact fits_of_scanBound T.few
  refine ts_sorted R (I.ok.hd hc) fun s' p out c k g o hp hg hi => ?_
  have hn : H p = none := I.hok.fresh hp
  have J : Inv X pins σ (upd H p (.lst ((sortT l).map V.str))) { s with heap := s'.heap, gens := s'.gens, drawn := s'.drawn, toks := s'.toks } :=
    I.call (ch := []) (Un.laid k hp hn) (I.hok.laid k hp ⟨by rw [List.length_map, sortT_len]; exact hl, out.toList, c, vals_of_strs hi, hg⟩) (by rw [g]; exact I.bare) (fun _ z => nomatch z)
  obtain ⟨h', g', d', t', os'⟩ := s'
  obtain ⟨h0, g0, d0, t0, os0⟩ := s
  cases (show os' = os0 from o)
  exact ⟨.ref p, _, J, rfl, q p hn⟩
/-- sorted(texts), any number -/
theorem cr_sortLS : CallR X (.builtin "sorted") (fun vs H Q => ∃ (a : Addr) (xs : List Str), vs = [V.ref a] ∧ SqL X.K H a (xs.map V.str) ∧ ∀ p, H p = none → Q (.ref p) (upd H p (.lst ((sortT xs).map V.str)))) := by
  intro pins s σ H vs us Q I r h
  obtain ⟨a, xs, rfl, hs, q⟩ := h
  obtain ⟨its, rv, hl, hlen⟩ := I.list hs
  rw [Vals.ref1 r]
  have l0 := rv.length
  rw [List.length_map] at l0 hlen
  refine PyProof.Rows.sorted_strsAny hl.isList rv.strs (by rw [← l0]; exact hlen) fun out ys h1 h2 h3 => ?_
  obtain ⟨ep, he'⟩ := PyProof.Rows.sortedAll_at s.heap its out
  rw [sortT_of h2 h3] at h1
  exact ⟨.ref _, upd H (s.heap.objs.size + 1) (.lst ((sortT xs).map V.str)), I.laid (t' := s.toks) (fun _ _ => PyProof.Rows.sortedAll_old) (Nat.le_succ _) ⟨by rw [List.length_map, sortT_len]; exact hlen, out.toList, ep, vals_of_strs h1, he'⟩, rfl, q _ (I.hok.fresh (Nat.le_succ _))⟩
end
end
/-! ### set(texts) -/
section
open PySem PySem.Spec PyProof.Rows
def setT (xs : List Str) : List Str := xs.foldl (fun l k => addT k l) []
theorem setT_go : ∀ (xs l : List Str), (∀ k, k ∈ xs.foldl (fun l k => addT k l) l ↔ k ∈ l ∨ k ∈ xs) ∧ (l.Nodup → (xs.foldl (fun l k => addT k l) l).Nodup) ∧ (xs.foldl (fun l k => addT k l) l).length ≤ l.length + xs.length
  | [], l => ⟨fun k => by simp, id, by simp⟩
  | x :: r, l => by
    obtain ⟨h1, h2, h3⟩ := setT_go r (addT x l)
    refine ⟨fun k => ?_, fun h => h2 (addT_nd h), ?_⟩
    · rw [List.foldl_cons, h1 k, addT_mem, List.mem_cons]
      constructor
      · rintro ((h | h) | h)
        · exact .inr (.inl h)
        · exact .inl h
        · exact .inr (.inr h)
      · rintro (h | h | h)
        · exact .inl (.inr h)
        · exact .inl (.inl h)
        · exact .inr h
    · rw [List.foldl_cons, List.length_cons]
      have := addT_len (k := x) (l := l)
      omega
theorem setT_mem {xs : List Str} {k : Str} : k ∈ setT xs ↔ k ∈ xs := by
  have := (setT_go xs []).1 k
  simpa [setT] using this
theorem setT_nd {xs : List Str} : (setT xs).Nodup := (setT_go xs []).2.1 List.nodup_nil
theorem setT_len {xs : List Str} : (setT xs).length ≤ xs.length := by
  have := (setT_go xs []).2.2
  simpa [setT] using this
theorem setT_take {xs : List Str} {i : Nat} {k : Str} (h : xs[i]? = some k) : setT (xs.take (i + 1)) = addT k (setT (xs.take i)) := by
  unfold setT
  rw [List.take_add_one, h, List.foldl_append]; rfl
theorem sortT_set {xs ys : List Str} (h : ∀ k, k ∈ xs ↔ k ∈ ys) : sortT (setT xs) = sortT (setT ys) := sortT_congr (nd_perm setT_nd setT_nd fun k => by rw [setT_mem, setT_mem]; exact h k)
/-- an empty set's object -/
abbrev set0 (w : World) : Obj := { cls := .type "set", dict := none, data := .set #[] 0 (.fresh 0 0 (!w.params.followText "set-order")) }
theorem TSet.first {w : World} {h : Heap} {a : Addr} (ho : h.get? a = some (set0 w)) : TSet w h a [] := by
  refine ⟨_, #[], 0, _, ho, ⟨rfl, rfl, rfl⟩, rfl, (fun e he => by simp at he), by simp, List.nodup_nil, by decide, by rfl, List.Pairwise.nil, ?_⟩
  show _ ∨ (!w.params.followText "set-order") = true
  cases w.params.followText "set-order" <;> simp
section
variable {P : Program} {w : World} {A : Around} {E : Value → Shared → Prop} {s : Shared}
theorem ts_update {I : Addr} {fp wr : List Addr} {G : Array GenState → Array GenState → Prop} {n : Nat} {Pv : Nat → Value → Prop} {St : Nat → Shared → Prop} {R : Result → Shared → Prop}
    (W : WalksS P w A.in1 I fp wr G n Pv St) (S : Addr) (hSf : S ∉ fp) (xs : List Str) (hn : n = xs.length) (hb : xs.length + 1 < scanBound) (hval : ∀ i v, Pv i v → ∃ k t, xs[i]? = some k ∧ v = .str k t) :
    ∀ (k i : Nat) (s : Shared), n - i = k → i ≤ n → St i s → TSet w s.heap S (setT (xs.take i)) → (∀ s', Moved (S :: wr) G s s' → TSet w s'.heap S (setT xs) → R (.ok (.ret .none)) s') →
      codeAny (model P w) A (.builtin "set.update.loop" ⟨[.ref S, .ref I], []⟩) R s := by
  have nw : S ∉ wr := fun h => hSf (W.sub _ h)
  have inc : ∀ b ∈ wr, b ∈ S :: wr := fun b hb => List.mem_cons_of_mem _ hb
  intro k
  induction k with
  | zero =>
    intro i s hk hi st hS hR
    obtain rfl : i = n := by omega
    refine codeAny_builtin F.entry_set_update_loop ?_
    rw [Around.under_plainId F.plain_set_update_loop _]
    show wpAny _ A.in1 (pyNext (.ref I) >>= _) _ _ s
    refine wpAny_bind (W.done s _ _ st fun s' hm => ?_)
    rw [List.take_of_length_le (by omega)] at hS
    exact wpAny_pure (hR s' (hm.mono inc) (hS.at fun o e => hm.heap S o nw e))
  | succ k ih =>
    intro i s hk hi st hS hR
    have lt : i < n := by omega
    refine codeAny_builtin F.entry_set_update_loop ?_
    rw [Around.under_plainId F.plain_set_update_loop _]
    show wpAny _ A.in1 (pyNext (.ref I) >>= _) _ _ s
    refine wpAny_bind (W.item i s _ _ lt st fun v s' hP st' hm => ?_)
    obtain ⟨z, t, hz, rfl⟩ := hval i v hP
    have hS' := hS.at (h' := s'.heap) fun o e => hm.heap S o nw e
    have hl : (setT (xs.take i)).length + 1 < scanBound := by
      have h1 := setT_len (xs := xs.take i)
      rw [List.length_take] at h1
      omega
    show wpAny _ A.in1 (holding [Value.str z t] (setAdd S (.str z t)) >>= _) _ _ s'
    refine wpAny_bind (wpAny_holding ?_)
    unfold setAdd
    refine wpAny_holding (wpAny_bind ((PySem.strKind P w).pyHash (k := z) (str_isS z t) (ts_addH (s := { s' with toks := s'.toks + 1 }) hS' hl fun h' b sb hS2 => ?_)))
    rw [← setT_take hz] at hS2
    refine wpAny_pure ⟨plainId_quiet F.plain_set_update_loop _, ih (i + 1) _ (by omega) lt (W.frame _ s' _ _ st' (Nat.le_succ _) fun b hb o e => ?_) hS2 fun s2 m2 q2 => ?_⟩
    · rw [sb.2 b (fun h : b = S => hSf (h ▸ hb))]; exact e
    · refine hR s2 (Moved.trans W.gtrans ((hm.mono inc).then_heap (Nat.le_succ _) fun b o hb e => ?_) m2) q2
      rw [sb.2 b (fun h : b = S => hb (h ▸ List.mem_cons_self))]; exact e
theorem strs_at : ∀ {vs : List Value} {xs : List Str}, StrsAre vs xs → ∀ {i : Nat} {v : Value}, vs[i]? = some v → ∃ k t, xs[i]? = some k ∧ v = .str k t
  | _, _, .nil, i, v, h => by simp at h
  | _, _, .cons y t r, i, v, h => by
    cases i with
    | zero =>
      cases h
      exact ⟨y, t, rfl, rfl⟩
    | succ i => exact strs_at r h
theorem strs_len : ∀ {vs : List Value} {xs : List Str}, StrsAre vs xs → vs.length = xs.length
  | _, _, .nil => rfl
  | _, _, .cons y t r => congrArg Nat.succ (strs_len r)
end
section
variable {X : Cx}
/-- len(found) -/
theorem cr_lenTS : CallR X (.builtin "len") (fun vs H Q => ∃ (a : Addr) (l : List Str), vs = [V.ref a] ∧ H a = some (TSO X.w a l) ∧ Q (.int (l.length : Int)) H) := by
  intro pins s σ H vs us Q I r h
  obtain ⟨a, l, rfl, ha, q⟩ := h
  rw [Vals.ref1 r]
  obtain ⟨o, es, ep, t, ho, hex, hd, T⟩ := tso_get I ha
  have hs := T.size
  have hf := T.few
  have h4 : scanBound = 4096 := rfl
  refine PySem.call_len_set ho hex hd T.fit (by omega) ⟨.int _, H, I.tok _, ?_, q⟩
  rw [hs]
  exact ⟨_, rfl⟩
end
end
/-! ### own classes: o[i], o[i] = v, x in o -/
section
open PySem PySem.Spec PyProof.Rows
variable {X : Cx} {CX : CXT} {k : Nat} {C f a dx : Addr} {fs : List (Str × V)} {fd : FuncData} {ps : List Str} {sp : Sp} {E : L2.St → XK} {pins : List (Addr × Obj)} {σ : L2.St} {H : Hp} {s : Shared}
theorem own_at (I : Inv X pins σ H s) (ea : H a = some (.ins C dx fs)) : ∃ od, PySem.W.InstAt s.heap a (PySem.W.instObj C dx) C (some od) := by
  obtain ⟨mA, O, _⟩ := ins_get I.hok ea
  obtain ⟨od, J, _⟩ := O.look
  exact ⟨od, J⟩
/-- a method of the class, called below the place -/
theorem run_in1 {us : List Value} {vs : List V} {Q : VK} (F : FnOk X.prog X.w X.K X.mg X.base CX k f fd ps sp) (hr : Room (k + 1) X.A) (hb : L2.Binds X.K fd ps []) (hx : PassesAt CX X σ (E σ)) (I : Inv X pins σ H s) (r : Vals vs us) (h : sp vs H Q (E σ)) :
    wpAny (model X.prog X.w) X.A.in1 (call (.ref f) us) (EP X pins σ Q) X.xe s := by
  have hl : (us ++ []).length = ps.length := by rw [List.append_nil, ← r.length]; exact F.len _ _ _ _ h
  have b := hb s us I.kIn hl
  rw [List.append_nil] at b
  refine wpAny_call (codeAny_mono (F.run X.A.in1 X.stack s H ⟨us, []⟩ us vs Q (E σ) hr.in1 I.env0.in1 b r h) fun q s' hq => ?_)
  match q, hq with
  | .error e, hq => exact hx pins H s e s' I hq
  | .ok (.ret u), hq => exact I.after hq
  | .ok .next, hq => exact hq.elim
  | .ok .brk, hq => exact hq.elim
  | .ok .cont, hq => exact hq.elim
theorem run_here {us : List Value} {vs : List V} {Q : VK} (F : FnOk X.prog X.w X.K X.mg X.base CX k f fd ps sp) (hr : Room k X.A) (hb : L2.Binds X.K fd ps []) (hx : PassesAt CX X σ (E σ)) (I : Inv X pins σ H s) (r : Vals vs us) (h : sp vs H Q (E σ)) :
    wpAny (model X.prog X.w) X.A (call (.ref f) us) (EP X pins σ Q) X.xe s := by
  have e0 : vs ++ ([] : List V) = vs := List.append_nil vs
  exact run_fnSD (dvs := []) F hr hb .nil hx I r (e0.symm ▸ h)
def tGetO (C : Addr) (sp : Sp) (E : L2.St → XK) (ta tb : TE) : TE := fun σ H Q => ta σ H fun x H1 => tb σ H1 fun y H2 => ∃ a dx fs, x = .ref a ∧ H2 a = some (.ins C dx fs) ∧ sp [.ref a, y] H2 Q (E σ)
theorem pe_getO {o i : Expr} {ta tb : TE} {pos : Pos} (ho : PE X o ta) (hi : PE X i tb) (hm : Meth X.K C "__getitem__" f) (hfn : PySem.W.fnIn X.K f = true) (F : FnOk X.prog X.w X.K X.mg X.base CX k f fd ps sp) (hr : Room (k + 1) X.A) (hb : L2.Binds X.K fd ps []) (hx : ∀ σ, PassesAt CX X σ (E σ))
    (hsl : ∀ v u, subscripted i true v u = runValue (.builtin "lifetime.subscript" ⟨[v, u], []⟩) := by intro _ _; with_unfolding_all rfl) : PE X (.Subscript o i pos) (tGetO C sp E ta tb) := by
  refine ⟨fun pins s σ H Q I h => ?_⟩
  refine Subscript_ (binT ho hi I h fun v u s2 x y H2 I2 rx ry q => ?_)
  obtain ⟨a, dx, fs, rfl, ea, q⟩ := q
  cases (show v = Value.ref a from rx)
  obtain ⟨od, J⟩ := own_at I2 ea
  have fi := hm.fn
  unfold PySem.W.fnIn at hfn
  split at hfn
  · rename_i e
    unfold subscriptTail getitemInPython
    refine wpAny_bind (wpAny_bind (wpAny_bind (J.type.here ((PySem.W.looks_findIn I2.kIn hm.at_).here ?_))))
    dsimp only
    refine wpAny_bind (wpAny_load (I2.kIn _ _ e) (wpAny_pure ?_))
    dsimp only
    rw [hsl]
    refine wpAny_bind (wpAny_runValue (codeAny_builtin PySem.W.entry_sub ?_))
    unfold Builtin.«lifetime.subscript»
    refine wpAny_bind (PySem.W.special_fn I2.kIn J hm.at_ (beq_iff_eq.mp fi) (wpAny_mono (run_in1 F hr hb (hx σ) I2 (vs := [.ref a, y]) (.cons rfl (.cons ry .nil)) q) (fun z s3 hz => wpAny_pure ?_) fun _ _ z => z))
    show wpAny (model X.prog X.w) X.A (letTemporaryGo o (.ref a) z >>= fun _ => pure z) _ _ s3
    exact wpAny_bind (wpAny_letTemporaryGo (wpAny_pure hz))
  · cases hfn
def gSetO (C : Addr) (sp : Sp) (E : L2.St → XK) (to ti : TE) : TG := fun v σ H Q => to σ H fun o H1 => ti σ H1 fun i H2 => ∃ a dx fs, o = .ref a ∧ H2 a = some (.ins C dx fs) ∧ sp [.ref a, i, v] H2 (fun _ H3 => Q σ H3) (E σ)
theorem pg_setO {o i : Expr} {to ti : TE} {pos : Pos} (ho : PE X o to) (hi : PE X i ti) (hm : Meth X.K C "__setitem__" f) (hq : PySem.W.noSeq X.K C = true) (F : FnOk X.prog X.w X.K X.mg X.base CX k f fd ps sp) (hr : Room k X.A) (hb : L2.Binds X.K fd ps []) (hx : ∀ σ, PassesAt CX X σ (E σ))
    (ha : ∀ v, assign (.Subscript o i pos) X.env v = (do
      let ov ← holding [v] (eval o X.env)
      let iv ← holding [v, ov] (eval i X.env)
      standAt pos
      holding [v, ov, iv] (setItem ov iv v)
      release [v, ov, iv] []) := by intro _; rfl) : PG X (.Subscript o i pos) (gSetO C sp E to ti) := by
  refine ⟨fun pins s σ H v u Q I r h => ?_⟩
  rw [ha]
  refine wpAny_bind (wpAny_holding (thn (ho.run pins s σ H _ I h) fun ov s1 ⟨x, H1, I1, r1, q1⟩ => wpAny_bind (wpAny_holding (thn (hi.run pins s1 σ H1 _ I1 q1) fun iv s2 ⟨y, H2, I2, r2, a, dx, fs, ex, ea, q2⟩ => ?_))))
  subst ex
  cases (show ov = Value.ref a from r1)
  obtain ⟨od, J⟩ := own_at I2 ea
  refine wpAny_bind (wpAny_standAt (wpAny_bind (wpAny_holding ?_)))
  unfold setItem sequenceKey
  refine wpAny_holding (wpAny_bind (wpAny_bind (J.type.here (wpAny_bind ((PySem.W.anyM_none I2.kIn hq).here ?_)))))
  rw [if_pos (show (!false) = true from rfl)]
  refine wpAny_pure (wpAny_bind (PySem.W.special_fn I2.kIn J hm.at_ (beq_iff_eq.mp hm.fn) (wpAny_mono (run_here F hr hb (hx σ) I2 (vs := [.ref a, y, v]) (.cons rfl (.cons r2 (.cons r .nil))) q2) (fun z s3 hz => wpAny_pure ?_) fun _ _ z => z)))
  obtain ⟨_, H3, I3, _, q3⟩ := hz
  exact wpAny_release ⟨σ, H3, I3, q3⟩
/-- x in o; x not in o: __contains__ gives a truth value -/
def rInO (C : Addr) (neg : Bool) (sp : Sp) : R2 := fun x y H Q => ∃ a dx fs, y = .ref a ∧ H a = some (.ins C dx fs) ∧ sp [.ref a, x] H (fun v H' => ∃ b, v = .bl b ∧ Q (.bl (if neg = true then !b else b)) H') E0
theorem has_own {Q : Bool → Shared → Prop} {x : V} {v : Value} (I : Inv X pins σ H s) (rx : RelV x v) (ea : H a = some (.ins C dx fs)) (hm : Meth X.K C "__contains__" f) (F : FnOk X.prog X.w X.K X.mg X.base CX0 k f fd ps sp) (hr : Room k X.A) (hb : L2.Binds X.K fd ps []) {Qb : Bool → Hp → Prop}
    (h : sp [.ref a, x] H (fun v H' => ∃ b, v = .bl b ∧ Qb b H') E0) (hQ : ∀ b s' H', Inv X pins σ H' s' → Qb b H' → Q b s') : wpAny (model X.prog X.w) X.A (contains (.ref a) v) Q X.xe s := by
  obtain ⟨od, J⟩ := own_at I ea
  unfold contains
  refine wpAny_holding (wpAny_bind (wpAny_bind (J.type.here ((PySem.W.looks_findIn I.kIn hm.at_).here ?_))))
  rw [if_neg (by simp)]
  refine wpAny_bind (PySem.W.unlessNone_K I.kIn J hm.at_ hm.fn (wpAny_mono (run_here (E := fun _ => E0) F hr hb (fun _ _ _ _ _ _ z => z.elim) I (vs := [.ref a, x]) (.cons rfl (.cons rx .nil)) h) (fun z s3 hz => ?_) fun _ _ z => z))
  obtain ⟨w, H3, I3, rw', b, rfl, q⟩ := hz
  cases (show z = Value.bool b from rw')
  exact wpAny_truthy_bool (hQ b s3 H3 I3 q)
theorem op_inO (hm : Meth X.K C "__contains__" f) (F : FnOk X.prog X.w X.K X.mg X.base CX0 k f fd ps sp) (hr : Room k X.A) (hb : L2.Binds X.K fd ps []) : OpR X (compareOp .In) (rInO C false sp) := by
  intro pins s σ H x y v u Q I rx ry h
  obtain ⟨a, dx, fs, rfl, ea, q⟩ := h
  cases (show u = Value.ref a from ry)
  exact wpAny_bind (has_own I rx ea hm F hr hb (Qb := fun b H' => Q (.bl b) H') q fun b s' H' I' q' => wpAny_pure ⟨.bl b, H', I', rfl, q'⟩)
theorem op_notInO (hm : Meth X.K C "__contains__" f) (F : FnOk X.prog X.w X.K X.mg X.base CX0 k f fd ps sp) (hr : Room k X.A) (hb : L2.Binds X.K fd ps []) : OpR X (compareOp .NotIn) (rInO C true sp) := by
  intro pins s σ H x y v u Q I rx ry h
  obtain ⟨a, dx, fs, rfl, ea, q⟩ := h
  cases (show u = Value.ref a from ry)
  exact wpAny_bind (has_own I rx ea hm F hr hb (Qb := fun b H' => Q (.bl (!b)) H') q fun b s' H' I' q' => wpAny_pure ⟨.bl (!b), H', I', rfl, q'⟩)
theorem passL0 {X : Cx} {σ : L2.St} : PassesAt (L2N.CX X.prog X.w) X σ E0 := fun pins H s e s' I c => passL pins σ H s e s' I c
end
/-! ### rules within a comprehension: the text's K by name -/
section
variable {X : Cx} {K : PySem.W.Frag}
theorem pe_fldK {o : Expr} {f : Str} {pos : Pos} {ta : TE} (hK : X.K = K) (ho : PE X o ta) (hab : attributeBase o f X.env (eval o X.env) = eval o X.env) : PE X (.Attribute o f pos) (tFld K ta f) := hK ▸ pe_fld ho hab
theorem op_inK (hK : X.K = K) : OpR X (compareOp .In) (rIn K false) := hK ▸ op_in_seq
theorem op_notInK (hK : X.K = K) : OpR X (compareOp .NotIn) (rIn K true) := hK ▸ op_notIn_seq
theorem ix_listK (hK : X.K = K) : IxR X (rIxL K) := hK ▸ ix_list
theorem ix_tupK (hK : X.K = K) : IxR X (rIxT K) := hK ▸ ix_tup
theorem op_eqDK (hK : X.K = K) (hu : X.A.units + 64 < cLine) : OpR X (compareOp .Eq) (rEqD K) := hK ▸ op_eqD hu
theorem op_neDK (hK : X.K = K) (hu : X.A.units + 64 < cLine) : OpR X (compareOp .NotEq) (rNeD K) := hK ▸ op_neD hu
end
/-! ### lists, the last item first -/
def rv {α : Type} (f : α → V) (l : List α) : List V := (l.map f).reverse
section
variable {α : Type} {f : α → V} {x y : α} {l : List α}
theorem rv_cons : rv f (x :: l) = rv f l ++ [f x] := by simp [rv]
theorem rv_len : (rv f l).length = l.length := by simp [rv]
theorem rv_at : atI (rv f (x :: l)) (-1) = some (f x) := by
  unfold atI ixN
  rw [rv_cons]
  have h1 : ¬ (0 : Int) ≤ -1 := by omega
  have h2 : -((rv f l ++ [f x]).length : Int) ≤ -1 := by rw [List.length_append]; simp; omega
  have h3 : ((-1 : Int) + ((rv f l ++ [f x]).length : Int)).toNat = (rv f l).length := by rw [List.length_append, List.length_singleton]; omega
  simp only [h1, if_false, h2, if_true, Option.bind_some, h3]
  rw [List.getElem?_append_right (Nat.le_refl _), Nat.sub_self]; rfl
theorem rv_ix : ixN (rv f (x :: l)).length (-1) = some l.length := by
  unfold ixN
  rw [rv_len]
  have h1 : ¬ (0 : Int) ≤ -1 := by omega
  have h2 : -((x :: l).length : Int) ≤ -1 := by rw [List.length_cons]; omega
  have h3 : ((-1 : Int) + ((x :: l).length : Int)).toNat = l.length := by rw [List.length_cons]; omega
  simp only [h1, if_false, h2, if_true, h3]
theorem rv_set : (rv f (x :: l)).set l.length (f y) = rv f (y :: l) := by
  rw [rv_cons, rv_cons, ← rv_len (f := f) (l := l), List.set_append_right _ _ (Nat.le_refl _), Nat.sub_self]; rfl
theorem rv_pop : (rv f (x :: l))[(rv f (x :: l)).length - 1]? = some (f x) := by
  rw [rv_len, rv_cons, List.length_cons, Nat.add_sub_cancel, ← rv_len (f := f) (l := l), List.getElem?_append_right (Nat.le_refl _), Nat.sub_self]; rfl
theorem rv_drop : (rv f (x :: l)).dropLast = rv f l := by
  rw [rv_cons, List.dropLast_concat]
end
inductive All2 {α β : Type} (R : α → β → Prop) : List α → List β → Prop
  | nil : All2 R [] []
  | cons {x y l m} : R x y → All2 R l m → All2 R (x :: l) (y :: m)
theorem All2.imp {α β : Type} {R S : α → β → Prop} {l : List α} {m : List β} (a : All2 R l m) (h : ∀ x y, x ∈ l → R x y → S x y) : All2 S l m := by
  induction a with
  | nil => exact .nil
  | cons r _ ih => exact .cons (h _ _ List.mem_cons_self r) (ih fun x y hx => h x y (List.mem_cons_of_mem _ hx))
theorem All2.mem {α β : Type} {R : α → β → Prop} {l : List α} {m : List β} (a : All2 R l m) {x : α} (h : x ∈ l) : ∃ y, y ∈ m ∧ R x y := by
  induction a with
  | nil => cases h
  | cons r _ ih =>
    rcases List.mem_cons.mp h with rfl | h
    · exact ⟨_, List.mem_cons_self, r⟩
    · obtain ⟨y, h1, h2⟩ := ih h
      exact ⟨y, List.mem_cons_of_mem _ h1, h2⟩
theorem All2.len {α β : Type} {R : α → β → Prop} {l : List α} {m : List β} (a : All2 R l m) : l.length = m.length := by
  induction a with
  | nil => rfl
  | cons _ _ ih => rw [List.length_cons, List.length_cons, ih]
/-! ### a database: its state, where it lies -/
structure Tx where
  num : Int
  rs : List (Option Str)
structure Row where
  rcd : Str
  val : V
  fate : Str
  holder : Int
  level : Int
structure Db where
  rows : List Row
  stack : List (Option Tx)
  entered : List Str
  floor : Int
  opened : Int
structure TxL where
  t : Addr
  dt : Addr
  q : Addr
structure Lay where
  db : Addr
  dx : Addr
  r : Addr
  s : Addr
  e : Addr
  ws : List (Addr × Addr)
  ts : List (Option TxL)
def oV : Option Str → V
  | none => .non
  | some z => .str z
def tV : Option TxL → V
  | none => .non
  | some t => .ref t.t
abbrev dbF (r s e : Addr) (f o : Int) : List (Str × V) := [("rows", .ref r), ("stack", .ref s), ("entered", .ref e), ("floor", .int f), ("opened", .int o)]
abbrev txF (n : Int) (q : Addr) : List (Str × V) := [("number", .int n), ("reasons", .ref q)]
abbrev rwF (w : Row) : List (Str × V) := [("record", .str w.rcd), ("value", w.val), ("fate", .str w.fate), ("holder", .int w.holder), ("level", .int w.level)]
def TxAt (aT : Addr) (H : Hp) : Option TxL → Option Tx → Prop
  | none, none => True
  | some t, some x => H t.t = some (.ins aT t.dt (txF x.num t.q)) ∧ H t.q = some (.lst (rv oV x.rs)) ∧ x.rs ≠ []
  | _, _ => False
def RowAt (aW : Addr) (H : Hp) (w : Addr × Addr) (x : Row) : Prop := H w.1 = some (.ins aW w.2 (rwF x))
structure DbAt (aD aT aW : Addr) (H : Hp) (L : Lay) (D : Db) : Prop where
  db : H L.db = some (.ins aD L.dx (dbF L.r L.s L.e D.floor D.opened))
  r : H L.r = some (.lst (L.ws.map fun w => .ref w.1))
  s : H L.s = some (.lst (rv tV L.ts))
  e : H L.e = some (.lst (rv V.str D.entered))
  rows : All2 (RowAt aW H) L.ws D.rows
  txs : All2 (TxAt aT H) L.ts D.stack
  rs : L.r ≠ L.s
  re : L.r ≠ L.e
  se : L.s ≠ L.e
  qn : ∀ t, some t ∈ L.ts → t.q ≠ L.r ∧ t.q ≠ L.s ∧ t.q ≠ L.e
  qd : L.ts.Pairwise fun x y => ∀ t u, x = some t → y = some u → t.q ≠ u.q
  wd : L.ws.Pairwise fun x y => x.1 ≠ y.1
  ne : D.stack ≠ []
/-- what may change -/
def Mut (L : Lay) (b : Addr) : Prop := b = L.db ∨ b = L.r ∨ b = L.s ∨ b = L.e ∨ (∃ t, some t ∈ L.ts ∧ b = t.q) ∨ ∃ w, w ∈ L.ws ∧ b = w.1
/-- all of it -/
def Foot (L : Lay) (b : Addr) : Prop := Mut L b ∨ ∃ t, some t ∈ L.ts ∧ b = t.t
structure Fr (H H' : Hp) (L L' : Lay) : Prop where
  kp : Kp (Mut L) H H'
  mt : ∀ b, Mut L' b → Mut L b ∨ H b = none
  db : L'.db = L.db
theorem Fr.refl {H : Hp} {L : Lay} : Fr H H L L := ⟨Kp.refl, fun _ h => .inl h, rfl⟩
theorem Fr.trans {H H1 H2 : Hp} {L L1 L2 : Lay} (a : Fr H H1 L L1) (b : Fr H1 H2 L1 L2) : Fr H H2 L L2 := by
  refine ⟨fun c u h n => ?_, fun c h => ?_, b.db.trans a.db⟩
  · refine b.kp c u (a.kp c u h n) fun z => ?_
    rcases a.mt c z with z | z
    · exact n z
    · rw [z] at h; cases h
  · rcases b.mt c h with z | z
    · exact a.mt c z
    · cases e : H c with
      | none => exact .inr rfl
      | some u =>
        by_cases hm : Mut L c
        · exact .inl hm
        · rw [a.kp c u e hm] at z; cases z
theorem Fr.of_kp {H H' : Hp} {L : Lay} (k : Kp (Mut L) H H') : Fr H H' L L := ⟨k, fun _ h => .inl h, rfl⟩
theorem Fr.new {H H' : Hp} {L L' : Lay} {p : Addr} {o : HO} (a : Fr H H' L L') (h : H' p = none) : Fr H (upd H' p o) L L' := ⟨a.kp.new h, a.mt, a.db⟩
/-- q is none of what may change -/
theorem Fr.out {H H' : Hp} {L L' : Lay} {b : Addr} {u : HO} (a : Fr H H' L L') (h : H b = some u) (n : ¬ Mut L b) : ¬ Mut L' b := fun z => by
  rcases a.mt b z with z | z
  · exact n z
  · rw [h] at z; cases z
section
variable {aD aT aW : Addr} {H H' : Hp} {L : Lay} {D : Db}
theorem TxAt.keep {x : Option TxL} {y : Option Tx} (h : TxAt aT H x y) (k : ∀ t, x = some t → (∀ u, H t.t = some u → H' t.t = some u) ∧ ∀ u, H t.q = some u → H' t.q = some u) : TxAt aT H' x y := by
  cases x with
  | none => cases y with
    | none => trivial
    | some y => exact h
  | some t => cases y with
    | none => exact h
    | some y =>
      obtain ⟨h1, h2, h3⟩ := h
      obtain ⟨k1, k2⟩ := k t rfl
      exact ⟨k1 _ h1, k2 _ h2, h3⟩
theorem DbAt.keep (h : DbAt aD aT aW H L D) (k : ∀ b u, Foot L b → H b = some u → H' b = some u) : DbAt aD aT aW H' L D := by
  refine ⟨k _ _ (.inl (.inl rfl)) h.db, k _ _ (.inl (.inr (.inl rfl))) h.r, k _ _ (.inl (.inr (.inr (.inl rfl)))) h.s, k _ _ (.inl (.inr (.inr (.inr (.inl rfl))))) h.e, ?_, ?_, h.rs, h.re, h.se, h.qn, h.qd, h.wd, h.ne⟩
  · exact h.rows.imp fun w x hw hx => k _ _ (.inl (.inr (.inr (.inr (.inr (.inr ⟨w, hw, rfl⟩)))))) hx
  · refine h.txs.imp fun x y hx hy => hy.keep fun t et => ?_
    subst et
    exact ⟨fun u => k _ u (.inr ⟨t, hx, rfl⟩), fun u => k _ u (.inl (.inr (.inr (.inr (.inr (.inl ⟨t, hx, rfl⟩))))))⟩
theorem DbAt.new {p : Addr} {o : HO} (h : DbAt aD aT aW H L D) (hp : H p = none) : DbAt aD aT aW (upd H p o) L D := h.keep fun b u _ e => upd_old e hp
theorem DbAt.tx (h : DbAt aD aT aW H L D) {t : TxL} (m : some t ∈ L.ts) : ∃ x : Tx, H t.t = some (.ins aT t.dt (txF x.num t.q)) ∧ H t.q = some (.lst (rv oV x.rs)) ∧ x.rs ≠ [] := by
  obtain ⟨y, _, hy⟩ := h.txs.mem m
  cases y with
  | none => exact hy.elim
  | some x => exact ⟨x, hy⟩
theorem DbAt.row (h : DbAt aD aT aW H L D) {w : Addr × Addr} (m : w ∈ L.ws) : ∃ x : Row, H w.1 = some (.ins aW w.2 (rwF x)) := by
  obtain ⟨y, _, hy⟩ := h.rows.mem m
  exact ⟨y, hy⟩
/-- what may change, is there -/
theorem DbAt.mut (h : DbAt aD aT aW H L D) {b : Addr} (m : Mut L b) : ∃ u, H b = some u := by
  rcases m with rfl | rfl | rfl | rfl | ⟨t, m, rfl⟩ | ⟨w, m, rfl⟩
  · exact ⟨_, h.db⟩
  · exact ⟨_, h.r⟩
  · exact ⟨_, h.s⟩
  · exact ⟨_, h.e⟩
  · obtain ⟨x, _, h2, _⟩ := h.tx m
    exact ⟨_, h2⟩
  · obtain ⟨x, h1⟩ := h.row m
    exact ⟨_, h1⟩
theorem DbAt.fresh (h : DbAt aD aT aW H L D) {b : Addr} (e : H b = none) : ¬ Mut L b := fun z => by
  obtain ⟨u, e2⟩ := h.mut z
  rw [e] at e2; cases e2
/-- a list that is none of its own changes -/
theorem DbAt.oth {p : Addr} {o : HO} {xs : List V} (h : DbAt aD aT aW H L D) (hp : H p = some (.lst xs)) (n : ¬ Mut L p) : DbAt aD aT aW (upd H p o) L D := h.keep fun b u f e => by
  refine upd_oth (fun z => ?_) e
  subst z
  rcases f with f | ⟨t, m, rfl⟩
  · exact n f
  · obtain ⟨x, h1, _⟩ := h.tx m
    rw [hp] at h1; cases h1
theorem DbAt.mutE : Mut L L.e := .inr (.inr (.inr (.inl rfl)))
theorem DbAt.mutS : Mut L L.s := .inr (.inr (.inl rfl))
theorem DbAt.mutD : Mut L L.db := .inl rfl
theorem DbAt.mutQ {t : TxL} (h : some t ∈ L.ts) : Mut L t.q := .inr (.inr (.inr (.inr (.inl ⟨t, h, rfl⟩))))
theorem ins_ne {b p C dx : Addr} {fs : List (Str × V)} {xs : List V} (h1 : H b = some (.ins C dx fs)) (h2 : H p = some (.lst xs)) : b ≠ p := fun z => by
  rw [z, h2] at h1; cases h1
theorem DbAt.rowsQ {p : Addr} {o : HO} {xs : List V} (h : DbAt aD aT aW H L D) (hp : H p = some (.lst xs)) : All2 (RowAt aW (upd H p o)) L.ws D.rows :=
  h.rows.imp fun w x hw hx => upd_oth (ins_ne hx hp) hx
theorem DbAt.txsQ {p : Addr} {o : HO} {xs : List V} (h : DbAt aD aT aW H L D) (hp : H p = some (.lst xs)) (n : ∀ t, some t ∈ L.ts → t.q ≠ p) : All2 (TxAt aT (upd H p o)) L.ts D.stack :=
  h.txs.imp fun x y hx hy => hy.keep fun t et => by
    subst et
    obtain ⟨z, h1, _⟩ := h.tx hx
    exact ⟨fun u e => upd_oth (ins_ne h1 hp) e, fun u e => upd_oth (n t hx) e⟩
theorem DbAt.setE (h : DbAt aD aT aW H L D) (es : List Str) : DbAt aD aT aW (upd H L.e (.lst (rv V.str es))) L { D with entered := es } :=
  ⟨upd_oth (ins_ne h.db h.e) h.db, upd_oth h.re h.r, upd_oth h.se h.s, upd_same, h.rowsQ h.e, h.txsQ h.e fun t m => (h.qn t m).2.2, h.rs, h.re, h.se, h.qn, h.qd, h.wd, h.ne⟩
theorem DbAt.setS (h : DbAt aD aT aW H L D) {ts : List (Option TxL)} {st : List (Option Tx)} (a : All2 (TxAt aT (upd H L.s (.lst (rv tV ts)))) ts st) (qn : ∀ t, some t ∈ ts → t.q ≠ L.r ∧ t.q ≠ L.s ∧ t.q ≠ L.e) (qd : ts.Pairwise fun x y => ∀ t u, x = some t → y = some u → t.q ≠ u.q) (ne : st ≠ []) :
    DbAt aD aT aW (upd H L.s (.lst (rv tV ts))) { L with ts := ts } { D with stack := st } :=
  ⟨upd_oth (ins_ne h.db h.s) h.db, upd_oth h.rs h.r, upd_same, upd_oth (Ne.symm h.se) h.e, h.rowsQ h.s, a, h.rs, h.re, h.se, qn, qd, h.wd, ne⟩
theorem DbAt.pushN (h : DbAt aD aT aW H L D) : DbAt aD aT aW (upd H L.s (.lst (rv tV (none :: L.ts)))) { L with ts := none :: L.ts } { D with stack := none :: D.stack } := by
  refine h.setS (.cons trivial (h.txsQ h.s fun t m => (h.qn t m).2.1)) (fun t m => ?_) ?_ (by simp)
  · rcases List.mem_cons.mp m with m | m
    · cases m
    · exact h.qn t m
  · exact List.pairwise_cons.mpr ⟨fun y _ t u e => (by cases e), h.qd⟩
theorem DbAt.pushT (h : DbAt aD aT aW H L D) {t : TxL} {n : Int} {rs : List (Option Str)} (h1 : H t.t = some (.ins aT t.dt (txF n t.q))) (h2 : H t.q = some (.lst (rv oV rs))) (hr : rs ≠ []) (hn : ¬ Mut L t.q) :
    DbAt aD aT aW (upd H L.s (.lst (rv tV (some t :: L.ts)))) { L with ts := some t :: L.ts } { D with stack := some ⟨n, rs⟩ :: D.stack } := by
  have ns : t.q ≠ L.s := fun z => hn (z ▸ DbAt.mutS)
  refine h.setS (.cons ⟨upd_oth (ins_ne h1 h.s) h1, upd_oth ns h2, hr⟩ (h.txsQ h.s fun t m => (h.qn t m).2.1)) (fun u m => ?_) ?_ (by simp)
  · rcases List.mem_cons.mp m with m | m
    · cases m
      exact ⟨fun z => hn (.inr (.inl z)), ns, fun z => hn (z ▸ DbAt.mutE)⟩
    · exact h.qn u m
  · refine List.pairwise_cons.mpr ⟨fun y hy u v e1 e2 z => ?_, h.qd⟩
    cases e1
    subst e2
    exact hn (z ▸ DbAt.mutQ hy)
theorem DbAt.popS {t : Option TxL} {ts : List (Option TxL)} {x : Option Tx} {st : List (Option Tx)} (h : DbAt aD aT aW H L D) (et : L.ts = t :: ts) (es : D.stack = x :: st) (ne : st ≠ []) :
    DbAt aD aT aW (upd H L.s (.lst (rv tV ts))) { L with ts := ts } { D with stack := st } := by
  have a : All2 (TxAt aT (upd H L.s (.lst (rv tV ts)))) (t :: ts) (x :: st) := by
    have := h.txsQ (o := .lst (rv tV ts)) h.s fun t m => (h.qn t m).2.1
    rw [et, es] at this; exact this
  cases a with
  | cons _ a =>
    refine h.setS a (fun u m => h.qn u (by rw [et]; exact List.mem_cons_of_mem _ m)) ?_ ne
    have := h.qd
    rw [et] at this
    exact (List.pairwise_cons.mp this).2
theorem DbAt.setD (h : DbAt aD aT aW H L D) (f o : Int) : DbAt aD aT aW (upd H L.db (.ins aD L.dx (dbF L.r L.s L.e f o))) L { D with floor := f, opened := o } := by
  refine ⟨upd_same, upd_oth (Ne.symm (ins_ne h.db h.r)) h.r, upd_oth (Ne.symm (ins_ne h.db h.s)) h.s, upd_oth (Ne.symm (ins_ne h.db h.e)) h.e, ?_, ?_, h.rs, h.re, h.se, h.qn, h.qd, h.wd, h.ne⟩
  · refine h.rows.imp fun w x hw hx => upd_oth (fun z => ?_) hx
    unfold RowAt at hx
    rw [z, h.db] at hx
    injection hx with hx
    injection hx with _ _ hx
    exact absurd (congrArg Prod.fst (List.cons.inj hx).1) (show ¬ (("rows" : Str) = "record") by decide +kernel)
  · refine h.txs.imp fun x y hx hy => hy.keep fun t et => ?_
    subst et
    obtain ⟨z, h1, h2, _⟩ := h.tx hx
    refine ⟨fun u e => upd_oth (fun z => ?_) e, fun u e => upd_oth (Ne.symm (ins_ne h.db h2)) e⟩
    rw [z, h.db] at h1
    injection h1 with h1
    injection h1 with _ _ h1
    exact absurd (congrArg List.length h1) (by simp)
theorem DbAt.setQ {t : TxL} {ts : List (Option TxL)} {x : Tx} {st : List (Option Tx)} {rs : List (Option Str)} (h : DbAt aD aT aW H L D) (et : L.ts = some t :: ts) (es : D.stack = some x :: st) (hr : rs ≠ []) :
    DbAt aD aT aW (upd H t.q (.lst (rv oV rs))) L { D with stack := some ⟨x.num, rs⟩ :: st } := by
  have mt : some t ∈ L.ts := by rw [et]; exact List.mem_cons_self
  have a := h.txs
  rw [et, es] at a
  cases a with
  | cons a0 a =>
    obtain ⟨h1, h2, h3⟩ := a0
    obtain ⟨n1, n2, n3⟩ := h.qn t mt
    have qd := h.qd
    rw [et] at qd
    obtain ⟨qd1, _⟩ := List.pairwise_cons.mp qd
    refine ⟨upd_oth (ins_ne h.db h2) h.db, upd_oth (Ne.symm n1) h.r, upd_oth (Ne.symm n2) h.s, upd_oth (Ne.symm n3) h.e, h.rowsQ h2, ?_, h.rs, h.re, h.se, h.qn, h.qd, h.wd, by simp⟩
    rw [et]
    refine .cons ⟨upd_oth (ins_ne h1 h2) h1, upd_same, hr⟩ (a.imp fun z y hz hy => hy.keep fun u eu => ?_)
    subst eu
    obtain ⟨z, k1, _⟩ := h.tx (t := u) (by rw [et]; exact List.mem_cons_of_mem _ hz)
    exact ⟨fun o e => upd_oth (ins_ne k1 h2) e, fun o e => upd_oth (fun z => qd1 _ hz t u rfl rfl z.symm) e⟩
theorem Fr.set {b : Addr} {o : HO} (m : Mut L b) : Fr H (upd H b o) L L := .of_kp (Kp.refl.set m)
theorem Mut.ts {ts : List (Option TxL)} {b : Addr} (h : Mut { L with ts := ts } b) (k : ∀ t, some t ∈ ts → b = t.q → Mut L b ∨ H b = none) : Mut L b ∨ H b = none := by
  rcases h with h | h | h | h | ⟨t, m, h⟩ | h
  · exact .inl (.inl h)
  · exact .inl (.inr (.inl h))
  · exact .inl (.inr (.inr (.inl h)))
  · exact .inl (.inr (.inr (.inr (.inl h))))
  · exact k t m h
  · exact .inl (.inr (.inr (.inr (.inr (.inr h)))))
theorem Fr.pushT {t : TxL} {o : HO} (k : Kp (Mut L) H H') (hq : H t.q = none) : Fr H (upd H' L.s o) L { L with ts := some t :: L.ts } := by
  refine ⟨k.set DbAt.mutS, fun b hb => hb.ts fun u m e => ?_, rfl⟩
  rcases List.mem_cons.mp m with m | m
  · cases m
    exact .inr (e ▸ hq)
  · exact .inl (e ▸ DbAt.mutQ m)
theorem Fr.pushN {o : HO} : Fr H (upd H L.s o) L { L with ts := none :: L.ts } := by
  refine ⟨Kp.refl.set DbAt.mutS, fun b hb => hb.ts fun u m e => ?_, rfl⟩
  rcases List.mem_cons.mp m with m | m
  · cases m
  · exact .inl (e ▸ DbAt.mutQ m)
theorem Fr.popS {t : Option TxL} {ts : List (Option TxL)} {o : HO} (et : L.ts = t :: ts) : Fr H (upd H L.s o) L { L with ts := ts } := by
  refine ⟨Kp.refl.set DbAt.mutS, fun b hb => hb.ts fun u m e => ?_, rfl⟩
  exact .inl (e ▸ DbAt.mutQ (by rw [et]; exact List.mem_cons_of_mem _ m))
theorem Fr.same (k : Same H H') : Fr H H' L L := .of_kp (.of_same k)
/-- the top: None or a transaction -/
theorem DbAt.top (h : DbAt aD aT aW H L D) : (∃ ts st, L.ts = none :: ts ∧ D.stack = none :: st) ∨
    ∃ t ts x st y rs, L.ts = some t :: ts ∧ D.stack = some x :: st ∧ x.rs = y :: rs ∧ H t.t = some (.ins aT t.dt (txF x.num t.q)) ∧ H t.q = some (.lst (rv oV (y :: rs))) := by
  have a := h.txs
  have n := h.ne
  generalize L.ts = ts0 at a
  generalize D.stack = st0 at a n
  cases a with
  | nil => exact absurd rfl n
  | @cons x y l m r a =>
    cases x with
    | none => cases y with
      | none => exact .inl ⟨_, _, rfl, rfl⟩
      | some y => exact r.elim
    | some t => cases y with
      | none => exact r.elim
      | some x =>
        obtain ⟨r1, r2, r3⟩ := r
        obtain ⟨num, rs⟩ := x
        cases rs with
        | nil => exact absurd rfl r3
        | cons y rs => exact .inr ⟨t, _, ⟨num, y :: rs⟩, _, y, rs, rfl, rfl, rfl, r1, r2⟩
end
/-! ### the rows of a database -/
theorem All2.get {α β : Type} {R : α → β → Prop} {l : List α} {m : List β} (a : All2 R l m) : ∀ {i : Nat} {x : α}, l[i]? = some x → ∃ y, m[i]? = some y ∧ R x y := by
  induction a with
  | nil => intro i x h; simp at h
  | cons r _ ih =>
    intro i x h
    cases i with
    | zero =>
      cases h
      exact ⟨_, rfl, r⟩
    | succ i => exact ih h
theorem All2.setR {α β : Type} {R S : α → β → Prop} {l : List α} {m : List β} (a : All2 R l m) : ∀ {i : Nat} {x : α} {y : β}, l[i]? = some x → S x y → (∀ j x' y', j ≠ i → l[j]? = some x' → R x' y' → S x' y') → All2 S l (m.set i y) := by
  induction a with
  | nil => intro i x y h; simp at h
  | @cons u v l m r t ih =>
    intro i x y h s k
    cases i with
    | zero =>
      cases h
      refine .cons s ?_
      have k' : ∀ j x' y', l[j]? = some x' → R x' y' → S x' y' := fun j x' y' e q => k (j + 1) x' y' (by omega) e q
      clear ih k
      induction t with
      | nil => exact .nil
      | cons r2 _ ih2 => exact .cons (k' 0 _ _ rfl r2) (ih2 fun j x' y' e q => k' (j + 1) x' y' e q)
    | succ i => exact .cons (k 0 _ _ (by omega) rfl r) (ih h s fun j x' y' n e q => k (j + 1) x' y' (by omega) e q)
theorem All2.snoc {α β : Type} {R : α → β → Prop} {l : List α} {m : List β} {x : α} {y : β} (a : All2 R l m) (r : R x y) : All2 R (l ++ [x]) (m ++ [y]) := by
  induction a with
  | nil => exact .cons r .nil
  | cons r' _ ih => exact .cons r' ih
section
variable {aD aT aW : Addr} {H H' : Hp} {L : Lay} {D : Db}
theorem row_ne_db {w : Addr × Addr} {x : Row} (h : DbAt aD aT aW H L D) (hx : H w.1 = some (.ins aW w.2 (rwF x))) : L.db ≠ w.1 := fun z => by
  rw [← z, h.db] at hx
  injection hx with hx
  injection hx with _ _ hx
  exact absurd (congrArg Prod.fst (List.cons.inj hx).1) (show ¬ (("rows" : Str) = "record") by decide +kernel)
theorem row_ne_tx {w : Addr × Addr} {x : Row} (h : DbAt aD aT aW H L D) (hx : H w.1 = some (.ins aW w.2 (rwF x))) {t : TxL} (m : some t ∈ L.ts) : t.t ≠ w.1 := fun z => by
  obtain ⟨y, h1, _⟩ := h.tx m
  rw [← z, h1] at hx
  injection hx with hx
  injection hx with _ _ hx
  exact absurd (congrArg List.length hx) (by simp)
theorem DbAt.mutW {w : Addr × Addr} (h : w ∈ L.ws) : Mut L w.1 := .inr (.inr (.inr (.inr (.inr ⟨w, h, rfl⟩))))
theorem DbAt.mutR : Mut L L.r := .inr (.inl rfl)
theorem DbAt.setRow {i : Nat} {w : Addr × Addr} {x' : Row} (h : DbAt aD aT aW H L D) (hw : L.ws[i]? = some w) : DbAt aD aT aW (upd H w.1 (.ins aW w.2 (rwF x'))) L { D with rows := D.rows.set i x' } := by
  obtain ⟨x, _, hx⟩ := h.rows.get hw
  have hx : H w.1 = some (.ins aW w.2 (rwF x)) := hx
  refine ⟨upd_oth (row_ne_db h hx) h.db, upd_oth (Ne.symm (ins_ne hx h.r)) h.r, upd_oth (Ne.symm (ins_ne hx h.s)) h.s, upd_oth (Ne.symm (ins_ne hx h.e)) h.e, ?_, ?_, h.rs, h.re, h.se, h.qn, h.qd, h.wd, h.ne⟩
  · refine h.rows.setR hw upd_same fun j v y n hv hy => upd_oth (fun z => ?_) hy
    have hi : i < L.ws.length := (List.getElem?_eq_some_iff.mp hw).1
    have hj : j < L.ws.length := (List.getElem?_eq_some_iff.mp hv).1
    have wi : L.ws[i] = w := (List.getElem?_eq_some_iff.mp hw).2
    have wj : L.ws[j] = v := (List.getElem?_eq_some_iff.mp hv).2
    rcases Nat.lt_or_gt_of_ne n with lt | gt
    · exact (List.pairwise_iff_getElem.mp h.wd j i hj hi lt) (by rw [wi, wj]; exact z)
    · exact (List.pairwise_iff_getElem.mp h.wd i j hi hj gt) (by rw [wi, wj]; exact z.symm)
  · refine h.txs.imp fun t y ht hy => hy.keep fun u eu => ?_
    subst eu
    obtain ⟨z, _, h2, _⟩ := h.tx ht
    exact ⟨fun o e => upd_oth (row_ne_tx h hx ht) e, fun o e => upd_oth (Ne.symm (ins_ne hx h2)) e⟩
theorem DbAt.addRow {w : Addr × Addr} {x : Row} (h : DbAt aD aT aW H L D) (hx : H w.1 = some (.ins aW w.2 (rwF x))) (hn : ¬ Mut L w.1) :
    DbAt aD aT aW (upd H L.r (.lst ((L.ws ++ [w]).map fun w => .ref w.1))) { L with ws := L.ws ++ [w] } { D with rows := D.rows ++ [x] } := by
  refine ⟨upd_oth (ins_ne h.db h.r) h.db, upd_same, upd_oth (Ne.symm h.rs) h.s, upd_oth (Ne.symm h.re) h.e, (h.rowsQ h.r).snoc (upd_oth (ins_ne hx h.r) hx), h.txsQ h.r fun t m => (h.qn t m).1, h.rs, h.re, h.se, h.qn, h.qd, ?_, h.ne⟩
  refine List.pairwise_append.mpr ⟨h.wd, List.pairwise_singleton _ _, fun v hv u hu => ?_⟩
  rcases List.mem_singleton.mp hu with rfl
  exact fun z => hn (z ▸ DbAt.mutW hv)
theorem Fr.addRow {w : Addr × Addr} {o : HO} (k : Kp (Mut L) H H') (hq : H w.1 = none) : Fr H (upd H' L.r o) L { L with ws := L.ws ++ [w] } := by
  refine ⟨k.set DbAt.mutR, fun b hb => ?_, rfl⟩
  rcases hb with hb | hb | hb | hb | hb | ⟨v, hv, hb⟩
  · exact .inl (.inl hb)
  · exact .inl (.inr (.inl hb))
  · exact .inl (.inr (.inr (.inl hb)))
  · exact .inl (.inr (.inr (.inr (.inl hb))))
  · exact .inl (.inr (.inr (.inr (.inr (.inl hb)))))
  · rcases List.mem_append.mp hv with hv | hv
    · exact .inl (hb ▸ DbAt.mutW hv)
    · rcases List.mem_singleton.mp hv with rfl
      exact .inr (hb ▸ hq)
end
/-! ### held records -/
def heldS (ns : List Int) (l : List Str) (x : Row) : List Str := if x.fate = "open" ∧ x.holder ∈ ns then addT x.rcd l else l
def heldL (rows : List Row) (ns : List Int) : List Str := rows.foldl (heldS ns) []
theorem held_fold (ns : List Int) : ∀ (rows : List Row) (l : List Str), (∀ k, k ∈ rows.foldl (heldS ns) l ↔ k ∈ l ∨ ∃ x ∈ rows, x.fate = "open" ∧ x.holder ∈ ns ∧ x.rcd = k) ∧ (l.Nodup → (rows.foldl (heldS ns) l).Nodup) ∧ (rows.foldl (heldS ns) l).length ≤ l.length + rows.length
  | [], l => ⟨fun k => by simp, id, by simp⟩
  | x :: r, l => by
    obtain ⟨h1, h2, h3⟩ := held_fold ns r (heldS ns l x)
    refine ⟨fun k => ?_, fun h => h2 ?_, ?_⟩
    · rw [List.foldl_cons, h1 k]
      have e : k ∈ heldS ns l x ↔ k ∈ l ∨ (x.fate = "open" ∧ x.holder ∈ ns ∧ x.rcd = k) := by
        unfold heldS
        split
        · rename_i c
          rw [addT_mem]
          exact ⟨fun z => z.elim (fun e => .inr ⟨c.1, c.2, e.symm⟩) .inl, fun z => z.elim .inr fun e => .inl e.2.2.symm⟩
        · rename_i c
          exact ⟨.inl, fun z => z.elim id fun e => absurd ⟨e.1, e.2.1⟩ c⟩
      rw [e]
      constructor
      · rintro ((h | h) | ⟨y, hy, h⟩)
        · exact .inl h
        · exact .inr ⟨x, List.mem_cons_self, h⟩
        · exact .inr ⟨y, List.mem_cons_of_mem _ hy, h⟩
      · rintro (h | ⟨y, hy, h⟩)
        · exact .inl (.inl h)
        · rcases List.mem_cons.mp hy with rfl | hy
          · exact .inl (.inr h)
          · exact .inr ⟨y, hy, h⟩
    · unfold heldS
      split
      · exact addT_nd h
      · exact h
    · rw [List.foldl_cons, List.length_cons]
      have e : (heldS ns l x).length ≤ l.length + 1 := by
        unfold heldS
        split
        · exact addT_len
        · omega
      omega
theorem held_mem {rows : List Row} {ns : List Int} {k : Str} : k ∈ heldL rows ns ↔ ∃ x ∈ rows, x.fate = "open" ∧ x.holder ∈ ns ∧ x.rcd = k := by
  have := (held_fold ns rows []).1 k
  simpa [heldL] using this
theorem held_nd {rows : List Row} {ns : List Int} : (heldL rows ns).Nodup := (held_fold ns rows []).2.1 List.nodup_nil
theorem held_len {rows : List Row} {ns : List Int} : (heldL rows ns).length ≤ rows.length := by
  have := (held_fold ns rows []).2.2
  simpa [heldL] using this
theorem held_take {rows : List Row} {ns : List Int} {i : Nat} {x : Row} (h : rows[i]? = some x) : heldL (rows.take (i + 1)) ns = heldS ns (heldL (rows.take i) ns) x := by
  unfold heldL
  rw [List.take_add_one, h, List.foldl_append]; rfl
/-- the numbers of some transactions, the last first -/
def numsO (st : List (Option Tx)) : List Int := (st.filterMap fun t => t.map (·.num)).reverse
/-! ### sorted(dict of texts) -/
section
open PySem PySem.Spec PyProof.Rows
theorem strs_nth : ∀ {vs : List Value} {xs : List Str}, vs.length = xs.length → (∀ (j : Nat) (v : Value), vs[j]? = some v → ∃ x t, xs[j]? = some x ∧ v = .str x t) → StrsAre vs xs
  | [], [], _, _ => .nil
  | v :: vs, x :: xs, hl, h => by
    obtain ⟨y, t, e, rfl⟩ := h 0 v rfl
    cases e
    exact .cons _ _ (strs_nth (Nat.succ.inj hl) fun j u e => h (j + 1) u e)
  | [], _ :: _, hl, _ => nomatch hl
  | _ :: _, [], hl, _ => nomatch hl
section
variable {P : Program} {w : World} {A : Around} {E : Value → Shared → Prop} {s : Shared} {T : String} {r d : Addr} {n : Nat} {Pv : Nat → Value → Prop} {OK : Heap → Prop}
/-- collecting from a dict: the heap grows -/
theorem collect_more {R : List Value → Shared → Prop} (S : PySem.W.KdlSrc P w T r d n Pv OK) (hh : A.handled = none) (ho : OK s.heap) (hn : n ≤ sizeLine)
    (q : ∀ (h' : Heap) (tk : Nat) (acc : Array Value), (∀ b o, s.heap.get? b = some o → h'.get? b = some o) → s.heap.objs.size < h'.objs.size → ItemsOf Pv acc n → R acc.toList { s with heap := h', toks := tk }) : wpAny (model P w) A (collect (.ref r)) R E s := by
  have lt := S.there _ ho
  have new0 : (s.heap.push { cls := .type "list", data := .seq ([] : List Value).toArray }).get? s.heap.objs.size = some { cls := .type "list", data := .seq #[] } := Heap.get?_push_size _ rfl
  unfold collect
  refine wpAny_bind (wpAny_runValue (codeAny_builtin entry_proto_collect' ?_)); rw [Around.under_plainId PySem.F.plain_proto_collect _]
  show wpAny _ A.in1 (newList [] >>= fun l => again (.builtin "list.__iadd__" ⟨[l, .ref r], []⟩)) _ _ s; refine wpAny_bind (wpAny_newObj_type (wpAny_pure ⟨plainId_quiet PySem.F.plain_list_iadd _, codeAny_builtin entry_list_iadd' ?_⟩)); rw [Around.under_plainId PySem.F.plain_list_iadd _]
  refine wpAny_mono (PySem.W.kdl_extend (A := A) (s := { s with heap := s.heap.push { cls := .type "list", data := .seq ([] : List Value).toArray } })
    (R := fun (z : Result) (s2 : Shared) => ∃ (g : Heap) (t : Nat) (ac : Array Value) (c : Nat), z = .ok (.ret (.ref s.heap.objs.size)) ∧ s2 = { s with heap := g, toks := t } ∧ (∀ b o, s.heap.get? b = some o → g.get? b = some o) ∧ g.get? s.heap.objs.size = some { cls := .type "list", dict := none, data := .seq ac c, slots := #[] } ∧ ItemsOf Pv ac n)
    S hh (S.keep _ _ ho fun b _ o e => Heap.get?_push_of_some _ e) s.heap.objs.size (Nat.ne_of_gt lt.1) (Nat.ne_of_gt lt.2) (.ref s.heap.objs.size) 0 new0 (fun g t ac c k hS ha => ⟨g, t, ac, c, rfl, rfl, fun b o e => k b o (Nat.ne_of_lt (Heap.lt_size e)) (Heap.get?_push_of_some _ e), hS, ha⟩) hn) (fun fin s2 x => ?_) fun e s2 x => ?_
  · match fin, x with
    | .done f, ⟨g, t, ac, c, e, es, k, hS, ha⟩ =>
      subst es; cases e
      show wpAny _ A (load s.heap.objs.size >>= _) _ _ _; exact wpAny_bind (wpAny_load hS (wpAny_pure (q g t ac k (Heap.lt_size hS) ha)))
    | .again c1, x =>
      refine ⟨x.1, codeAny_mono x.2 fun z s3 y => ?_⟩
      obtain ⟨g, t, ac, c, rfl, rfl, k, hS, ha⟩ := y
      show wpAny _ A (load s.heap.objs.size >>= _) _ _ _; exact wpAny_bind (wpAny_load hS (wpAny_pure (q g t ac k (Heap.lt_size hS) ha)))
  · obtain ⟨_, _, _, _, z, _⟩ := x
    cases z
end
section
variable {X : Cx}
/-- sorted(d), d a dict with texts as keys -/
theorem cr_sortDK (hc : X.calm = true) : CallR X (.builtin "sorted") (fun vs H Q => ∃ (a : Addr) (kvs : List (Key × V)) (xs : List Str), vs = [V.ref a] ∧ H a = some (.dK kvs) ∧ kvs.map (·.1) = xs.map Sum.inr ∧ ∀ p, H p = none → Q (.ref p) (upd H p (.lst ((sortT xs).map V.str)))) := by
  intro pins s σ H vs us Q I r h
  obtain ⟨a, kvs, xs, rfl, ha, hk, q⟩ := h
  rw [Vals.ref1 r]
  obtain ⟨z, hd, ws, rel, dd⟩ := dk_of I.hok ha
  obtain ⟨ep, hat⟩ := dd.dictAt
  have hks : ws.map (·.1) = xs.map Sum.inr := rel.keys ▸ hk
  have hlw : ws.length = xs.length := by
    have := congrArg List.length hks
    rwa [List.length_map, List.length_map] at this
  have hlx : xs.length ≤ sizeLine := by rw [← hlw, ← rel.length]; exact z
  refine Calls.call_function_entry kind_sorted plain_sorted entry_sorted (args_sorted1 _) ?_
  unfold Builtin.«sorted»
  refine wpAny_bind (m := checkCount "sorted" 1 1 _) (wpAny_pure (wpAny_bind (collect_more (A := X.A.in1) (PySem.W.kdl_dict (knd := mixKind X.prog X.w) (kvs := ws) (ep := ep) hd) (I.ok.hd hc) hat (by rw [hlw]; exact hlx) fun h' tk acc k1 hlt hacc => ?_)))
  have hl : acc.toList.length = xs.length := by rw [Array.length_toList, ← hlw]; exact hacc.1
  have hS : StrsAre acc.toList xs := strs_nth hl fun j v hv => by
    obtain ⟨k, x, e, hi⟩ := hacc.2 j v (by rw [← Array.getElem?_toList]; exact hv)
    have hx : (xs.map Sum.inr : List Key)[j]? = some k := by rw [← hks, List.getElem?_map, e]; rfl
    rw [List.getElem?_map] at hx
    cases ex : xs[j]? with
    | none => rw [ex] at hx; cases hx
    | some y =>
      rw [ex] at hx
      cases hx
      rcases keyIs_shape (show keyIs (Sum.inr y) v = true from hi) with ⟨i, t, e1, e2⟩ | ⟨x', t, e1, e2⟩
      · cases e1
      · cases e1
        exact ⟨_, t, rfl, e2⟩
  have hL : acc.toList.length ≤ sizeLine := by rw [hl]; exact hlx
  refine wpAny_bind (wpAny_newList ?_ hL)
  have hoL : (h'.push (seqObj "list" acc.toList.toArray 0)).get? h'.objs.size = some (seqObj "list" acc.toList.toArray 0) := Heap.get?_push_size _ rfl
  refine wpAny_bind (wpAny_holding (wpAny_call_entry slot_list_sort ⟨_, hoL, rfl⟩ entry_list_sort (list_sort_treeKAny strKind_oneLt hoL hS.keysOf (fun v₁ v₂ rest e => keyKind_strs (by rw [← e]; exact hS)) hL fun st' hp hs => ⟨_, rfl, ?_⟩) (args_list_sort _)))
  obtain ⟨ys, h1, h2, h3⟩ := sorted_out_str hS hp hs
  obtain ⟨c, hcc⟩ := sortedHeap_at (vs := acc.toList) (out := (arrOf st').map (·.2)) hoL
  rw [sortT_of h2 h3] at h1
  have hge : s.heap.objs.size ≤ h'.objs.size := Nat.le_of_lt hlt
  have hn : H h'.objs.size = none := I.hok.fresh hge
  have k2 : ∀ b o, s.heap.get? b = some o → (sortedHeap (h'.push (seqObj "list" acc.toList.toArray 0)) h'.objs.size acc.toList ((arrOf st').map (·.2))).get? b = some o := fun b u e => by
    have q := k1 b u e
    have lt := Heap.lt_size q
    rw [sortedHeap_old (Nat.ne_of_lt lt) (by rw [size_push']; exact Nat.lt_succ_of_lt lt)]
    exact Heap.get?_push_of_some _ q
  refine wpAny_pure ⟨_, rfl, ?_⟩
  exact ⟨.ref h'.objs.size, upd H h'.objs.size (.lst ((sortT xs).map V.str)), I.laid (t' := tk) k2 hge ⟨by rw [List.length_map, sortT_len]; exact hlx, ((arrOf st').map (·.2)).toList, c, vals_of_strs h1, hcc⟩, rfl, q _ hn⟩
end
end
/-! ### xs == [], xs != [] for items of any kind -/
section
variable {X : Cx}
def rEqE (K : PySem.W.Frag) : R2 := fun x y H Q => ∃ a b xs, x = .ref a ∧ y = .ref b ∧ SqL K H a xs ∧ SqL K H b [] ∧ Q (.bl xs.isEmpty) H
def rNeE (K : PySem.W.Frag) : R2 := fun x y H Q => ∃ a b xs, x = .ref a ∧ y = .ref b ∧ SqL K H a xs ∧ SqL K H b [] ∧ Q (.bl (!xs.isEmpty)) H
theorem lens_ne {x : V} {xs : List V} {its its2 : List Value} (r : Vals (x :: xs) its) (r2 : Vals [] its2) : (its.toArray.size != its2.toArray.size) = true := by
  have h1 := r.length
  have h2 := r2.length
  rw [List.length_cons] at h1
  rw [List.length_nil] at h2
  rw [List.size_toArray, List.size_toArray, ← h1, ← h2]
  rfl
theorem op_eqE (hu : X.A.units + 64 < cLine) : OpR X (compareOp .Eq) (rEqE X.K) := by
  intro pins s σ H x y v u Q I rx ry h
  obtain ⟨a, b, xs, rfl, rfl, ha, hb, q⟩ := h
  cases xs with
  | nil => exact op_eqD hu pins s σ H _ _ v u Q I rx ry ⟨.list [], .list [], .lst ha .nil, .lst hb .nil, rfl, rfl, q⟩
  | cons x xs =>
    obtain ⟨its, rv1, hl, _⟩ := I.list ha
    obtain ⟨its2, rv2, hl2, _⟩ := I.list hb
    cases (show v = Value.ref a from rx)
    cases (show u = Value.ref b from ry)
    exact PySem.SeqAt.eq_list_lengthsAt hl.isList hl2.isList (lens_ne rv1 rv2) (by omega) ⟨.bl false, H, I, rfl, q⟩
theorem op_neE (hu : X.A.units + 64 < cLine) : OpR X (compareOp .NotEq) (rNeE X.K) := by
  intro pins s σ H x y v u Q I rx ry h
  obtain ⟨a, b, xs, rfl, rfl, ha, hb, q⟩ := h
  cases xs with
  | nil => exact op_neD hu pins s σ H _ _ v u Q I rx ry ⟨.list [], .list [], .lst ha .nil, .lst hb .nil, rfl, rfl, q⟩
  | cons x xs =>
    obtain ⟨its, rv1, hl, _⟩ := I.list ha
    obtain ⟨its2, rv2, hl2, _⟩ := I.list hb
    cases (show v = Value.ref a from rx)
    cases (show u = Value.ref b from ry)
    exact PySem.SeqAt.RcNeAt.lists_lengths hl.isList hl2.isList (lens_ne rv1 rv2) (by omega) _ _ _ _ ⟨.bl true, H, I, rfl, q⟩
end
/-! ### for in a generator's body -/
section
open PySem.Spec PyProof.Rows GenW
section
variable {M : Model} {A : Around} {R : GenEnd} {Y : Protocol} {n : Nat} {s₀ : Shared} {c : Code} {fs : List Frame} {s : Shared} {env : Env} {K : Flow → Sem PySem.Fin} {H : Value → Sem PySem.Fin} {gd : Bool → Bool} {lv : List Value → List Value}
theorem seg_For {target iter : Expr} {body orelse : List Stmt} {pos : Pos}
    (h : wpAny M (A.over c fs) (eval iter env) (fun x s₁ => wpAny M (A.over c fs) (pyIter x) (fun it s₂ => ∀ p, Seg M A R Y n s₀ (.forLoop target it body orelse env) (M.den (.forLoop target it body orelse env))
      (.ret (fun r => ((match r with | .ok f => (.pure f : Sem Flow) | .error e => .raise e).onRaise (cameBack env)).wrap K H gd lv) none (gd false) (lv []) c p [] :: fs) s₂)
        (fun x s' => Seg M A R Y n s₀ c (H x) fs s') s₁) (fun x s' => Seg M A R Y n s₀ c (H x) fs s') s)
    (hs : ∀ x, foldedSetIterable iter env x = pure x) :
    Seg M A R Y n s₀ c ((exec (.For target iter body orelse pos) env).wrap K H gd lv) fs s := by
  rw [exec_For]
  refine seg_bind_wrap (wpAny_standAt ?_)
  refine seg_bind_wrap (wpAny_mono h (fun x s₁ h₁ => ?_) fun _ _ h' => h')
  refine seg_bind_wrap (wpAny_of_eq (hs x) ?_)
  refine seg_bind_wrap (wpAny_standAt ?_)
  refine seg_bind_wrap (wpAny_holding (wpAny_mono h₁ (fun it s₂ h₂ => ?_) fun _ _ h' => h'))
  exact seg_call h₂
end
section
variable {prog : Program} {w : World} {A : Around} {R : GenEnd} {Y : Protocol} {n : Nat} {s₀ : Shared} {fs : List Frame} {s : Shared} {env : Env}
theorem seg_forLoop {target : Expr} {it : Value} {body : List Stmt}
    (h : wpAny (model prog w) (A.over (.forLoop target it body [] env) fs) (pyNext it) (fun r s₁ => match r with
        | none => Seg (model prog w) A R Y n s₀ (.block [] env) (leafOf (.ok .next)) fs s₁
        | some v => wpAny (model prog w) (A.over (.forLoop target it body [] env) fs) (letOwnedTupleGo target it v) (fun _ s₂ => wpAny (model prog w) (A.over (.forLoop target it body [] env) fs) (assign target env v) (fun _ s₃ =>
          Seg (model prog w) A R Y n s₀ (.forLoop target it body [] env) ((execs body env).wrap (fun f => match f with
            | .next | .cont => .pure (.again (.forLoop target it body [] env))
            | .brk => .pure (.done .next)
            | .ret v => .pure (.done (.ret v))) (fun e => (do noteFrame e env; theTreesLotGoes e : Sem Unit).wrap (fun _ => .raise e) .raise id id) id id) fs s₃)
          (fun x s' => Seg (model prog w) A R Y n s₀ (.forLoop target it body [] env) ((do noteFrame x env; theTreesLotGoes x : Sem Unit).wrap (fun _ => .raise x) .raise id id) fs s') s₂)
          (fun x s' => Seg (model prog w) A R Y n s₀ (.forLoop target it body [] env) ((do noteFrame x env; theTreesLotGoes x : Sem Unit).wrap (fun _ => .raise x) .raise id id) fs s') s₁)
      (fun x s' => Seg (model prog w) A R Y n s₀ (.forLoop target it body [] env) ((do noteFrame x env; theTreesLotGoes x : Sem Unit).wrap (fun _ => .raise x) .raise id id) fs s') s) :
    Seg (model prog w) A R Y n s₀ (.forLoop target it body [] env) ((model prog w).den (.forLoop target it body [] env)) fs s := by
  show Seg _ A R Y n s₀ _ ((forTurn target it body [] env).onRaise (fun x => do noteFrame x env; theTreesLotGoes x)) fs s
  have eE : ∀ x : Value, ((do noteFrame x env; theTreesLotGoes x : Sem Unit).bind fun _ => (.raise x : Sem PySem.Fin)) = (do noteFrame x env; theTreesLotGoes x : Sem Unit).wrap (fun _ => .raise x) .raise id id := fun x => Sem.bind_eq_wrap _ _
  rw [Sem.onRaise_eq_wrap]
  simp only [eE]
  unfold forTurn
  refine seg_bind_wrap (wpAny_standAt ?_)
  refine seg_bind_wrap (wpAny_onRaise (wpAny_mono h (fun r s₁ h₁ => ?_) fun _ _ h' => wpAny_standAt h'))
  cases r with
  | none => exact seg_again rfl h₁
  | some v =>
    refine seg_bind_wrap (wpAny_mono h₁ (fun _ s₂ h₂ => ?_) fun _ _ h' => h')
    refine seg_bind_wrap (wpAny_mono h₂ (fun _ s₃ h₃ => ?_) fun _ _ h' => h')
    rw [Sem.bind_eq_wrap', Sem.wrap_wrap]
    rw [Sem.wrap_congr (execs body env) _ _ (K' := fun f => match f with
            | .next | .cont => .pure (.again (.forLoop target it body [] env))
            | .brk => .pure (.done .next)
            | .ret v => .pure (.done (.ret v))) (H' := (fun e => (do noteFrame e env; theTreesLotGoes e : Sem Unit).wrap (fun _ => .raise e) .raise id id))
        (fun f => by cases f <;> rfl) (fun e => by rfl)]
    exact h₃
end
section
variable {X : Cx} {tg : Expr}
def tGFor (wi : TI) (g : TG) (tb : TGn) : TGn := fun D ys σ H => wi σ H fun J H1 => ∃ W : Nat → Nat → List V → L2.St → Hp → Prop, (∃ m, W 0 m ys σ H1) ∧ ∀ i m ys σ H, W i m ys σ H →
  (J.stop i H ∧ D.nx ys σ H) ∨ (J.go i H ∧ ∃ N : List V → L2.St → Hp → Prop, (∀ ys' σ' H', N ys' σ' H' → ∃ m', m' < m ∧ W (i + 1) m' ys' σ' H') ∧ ∀ x H', J.yld i H x H' → g x σ H' fun σ2 H2 => tb { D with nx := N, ct := N, bk := D.nx } ys σ2 H2)
theorem gs_for {iter : Expr} {body : List Stmt} {wi : TI} {g : TG} {tb : TGn} {pos : Pos} (hp : PassesOwn (model X.prog X.w) X.A X.env X.xe) (hc : X.calm = true) (hi : PI X tg iter wi) (hg : PG X tg g) (hb : GSs X body tb)
    (hs : ∀ x, foldedSetIterable iter X.env x = pure x := by intro _; rfl) : GS X (.For tg iter body [] pos) (tGFor wi g tb) := by
  refine ⟨fun A S ip R n ys s₀ c fs K J gd lv s σ H D g0 hn k hI ht => ?_⟩
  obtain ⟨acc, cc, r, I⟩ := hI
  refine seg_For ?_ hs
  rw [g0.over]
  refine wpAny_mono (hi.run _ s σ H _ I ht) (fun v s1 h1 => wpAny_mono h1 (fun itv s2 h2 p => ?_) fun x s' hx => k.exc n s₀ x s' hx) fun x s' hx => k.exc n s₀ x s' hx
  obtain ⟨it, fp, tn, J0, H2, e, I2, T, st2, f2, W, ⟨m0, w0⟩, turn⟩ := h2
  subst e
  have stat : ∀ {H' : Hp} {acc' : Array Value} {c' : Nat}, (∀ b ∈ fp, H' b = none) → ∀ b ∈ fp, FpOk X ((S, lstObj acc' c') :: ip) H' b := fun hn b hb => by
    obtain ⟨q0, q1, q2, q3, q4, q5⟩ := f2 b hb
    refine ⟨hn b hb, q1, q2, q3, q4, fun p hp => ?_⟩
    rcases List.mem_append.mp hp with hp | hp
    · exact q5 p (List.mem_append_left _ hp)
    · rcases List.mem_cons.mp hp with rfl | hp
      · exact q5 (S, lstObj acc cc) (List.mem_append_right _ List.mem_cons_self)
      · exact q5 p (List.mem_append_right _ (List.mem_cons_of_mem _ hp))
  have nS : ∀ b ∈ fp, b ≠ S := fun b hb e => (f2 b hb).2.2.2.2.2 (S, lstObj acc cc) (List.mem_append_right _ List.mem_cons_self) e.symm
  have gl := fun (kk : Result → Sem PySem.Fin) => gc_loop (k := kk) (c' := .forLoop tg (.ref it) body [] X.env) (l := lv []) (kp := []) (p := p) g0 rfl rfl
  have loop : ∀ (m n : Nat) (ys : List V) (s₀ s : Shared) (i : Nat) (σ : L2.St) (H : Hp), n + ys.length = sizeLine → W i m ys σ H → GI X S ip ys σ H s → tn i s.heap → (∀ b ∈ fp, H b = none) →
      Seg (model X.prog X.w) A R (GY X S) n s₀ (.forLoop tg (.ref it) body [] X.env) ((model X.prog X.w).den (.forLoop tg (.ref it) body [] X.env))
        (.ret (fun r => ((match r with | .ok f => (.pure f : Sem Flow) | .error e => .raise e).onRaise (cameBack X.env)).wrap K J gd lv) none (gd false) (lv []) c p [] :: fs) s := by
    intro m
    induction m using Nat.strongRecOn with
    | ind m ih =>
      intro n ys s₀ s3 i σ3 H3 hn w3 hI st3 fr3
      have ee : ∀ (n : Nat) (s₀ : Shared) (x : Value) (s' : Shared), X.xe x s' → Seg (model X.prog X.w) A R (GY X S) n s₀ (.forLoop tg (.ref it) body [] X.env)
          ((do noteFrame x X.env; theTreesLotGoes x : Sem Unit).wrap (fun _ => .raise x) .raise id id)
          (.ret (fun r => ((match r with | .ok f => (.pure f : Sem Flow) | .error e => .raise e).onRaise (cameBack X.env)).wrap K J gd lv) none (gd false) (lv []) c p [] :: fs) s' := fun n s₀ x s' hx => by
        refine seg_wrap ?_
        rw [(gl _).over]
        refine wpAny_bind (wpAny_mono (hp x s' hx) (fun _ s'' hcb => wpAny_theTreesLotGoes ?_) fun y s'' hcb => ?_)
        · exact seg_leaf (.error x) (seg_cameBack g0 k hcb)
        · exact seg_leaf (.error y) (seg_cameBack g0 k hcb)
      refine seg_forLoop ?_
      rw [(gl _).over]
      obtain ⟨acc3, cc3, r3, I3⟩ := hI
      rcases turn i m ys σ3 H3 w3 with ⟨stop, qn⟩ | ⟨go, N, hN, step⟩
      · refine wpAny_mono (T.done X rfl rfl rfl hc i _ s3 σ3 H3 X.xe I3 (stat fr3) st3 stop) (fun r s4 h4 => ?_) fun x s' hx => ee n s₀ x s' hx
        obtain ⟨hr, I4⟩ := h4
        subst hr
        exact seg_leaf (.ok .next) (k.ok n ys s₀ s4 .next hn ⟨σ3, H3, ⟨acc3, cc3, r3, I4⟩, qn⟩)
      · refine wpAny_mono (T.item X rfl rfl rfl hc i _ s3 σ3 H3 X.xe I3 (stat fr3) st3 go) (fun r s4 h4 => ?_) fun x s' hx => ee n s₀ x s' hx
        obtain ⟨u, hr, h4⟩ := h4
        subst hr
        refine wpAny_mono h4 (fun _ s5 h5 => ?_) fun x s' hx => ee n s₀ x s' hx
        obtain ⟨x, H5, I5, r5, y5, st5, fr5⟩ := h5
        have I5' := I5.pinned (stat fr5) (T.obj _ _ st5)
        refine wpAny_mono (hg.run _ s5 σ3 H5 x u _ I5' r5 (step x H5 y5)) (fun _ s6 h6 => ?_) fun x s' hx => ee n s₀ x s' hx
        obtain ⟨σ6, H6, I6, q6⟩ := h6
        have hip : ∀ q ∈ ip ++ pinsAt fp s5.heap, q.1 ≠ S := fun q hq => by
          rcases List.mem_append.mp hq with hq | hq
          · exact g0.ip q hq
          · exact nS _ (of_pinsAt hq).1
        have g6 := fun (kk : Result → Sem PySem.Fin) => ({ gl kk with ip := hip } : GC X S (ip ++ pinsAt fp s5.heap) A (.forLoop tg (.ref it) body [] X.env) _ id)
        have again : ∀ {n' : Nat} {ys' : List V} {s₀' s7 : Shared} {σ7 : L2.St} {H7 : Hp}, n' + ys'.length = sizeLine → GI X S (ip ++ pinsAt fp s5.heap) ys' σ7 H7 s7 → N ys' σ7 H7 →
            Seg (model X.prog X.w) A R (GY X S) n' s₀' (.forLoop tg (.ref it) body [] X.env) ((model X.prog X.w).den (.forLoop tg (.ref it) body [] X.env))
              (.ret (fun r => ((match r with | .ok f => (.pure f : Sem Flow) | .error e => .raise e).onRaise (cameBack X.env)).wrap K J gd lv) none (gd false) (lv []) c p [] :: fs) s7 := fun {n' ys' s₀' s7 σ7 H7} hn' G7 n7 => by
          obtain ⟨m', hm, w7⟩ := hN ys' σ7 H7 n7
          obtain ⟨acc7, cc7, r7, I7⟩ := G7
          have pin7 : ∀ b o, (b, o) ∈ pinsAt fp s5.heap → s7.heap.get? b = some o ∧ H7 b = none := fun b o hb => by
            have := I7.pin (b, o) (List.mem_append_right _ (List.mem_cons_of_mem _ (List.mem_append_right _ hb)))
            exact ⟨this.1, this.2.1⟩
          refine ih m' hm n' ys' s₀' s7 (i + 1) σ7 H7 hn' w7 ⟨acc7, cc7, r7, I7.pins_of fun q hq => ?_⟩ (T.keep _ _ _ st5 fun b hb o e => (pin7 b o (mem_pinsAt hb e)).1) fun b hb => ?_
          · rcases List.mem_cons.mp hq with rfl | hq
            · exact I7.pin _ (List.mem_append_right _ List.mem_cons_self)
            · exact I7.pin q (List.mem_append_right _ (List.mem_cons_of_mem _ (List.mem_append_left _ hq)))
          · obtain ⟨o, e, d⟩ := T.obj _ _ st5 b hb
            exact (pin7 b o (mem_pinsAt hb e)).2
        have out : ∀ {ys' : List V} {s7 : Shared} {σ7 : L2.St} {H7 : Hp}, GI X S (ip ++ pinsAt fp s5.heap) ys' σ7 H7 s7 → GI X S ip ys' σ7 H7 s7 := fun {ys' s7 σ7 H7} G7 => by
          obtain ⟨acc7, cc7, r7, I7⟩ := G7
          refine ⟨acc7, cc7, r7, I7.pins_of fun q hq => ?_⟩
          rcases List.mem_cons.mp hq with rfl | hq
          · exact I7.pin _ (List.mem_append_right _ List.mem_cons_self)
          · exact I7.pin q (List.mem_append_right _ (List.mem_cons_of_mem _ (List.mem_append_left _ hq)))
        refine hb.run A S (ip ++ pinsAt fp s5.heap) R n ys s₀ _ _ _ _ id id s6 σ6 H6 { D with nx := N, ct := N, bk := D.nx } (g6 _) hn ⟨fun n' ys' s₀' s7 f hn' hs => ?_, fun n' s₀' x s7 hx => ee n' s₀' x s7 hx⟩ ⟨acc3, cc3, r3, I6⟩ q6
        cases f with
        | next =>
          obtain ⟨σ7, H7, G7, n7⟩ := hs
          exact seg_again rfl (again hn' G7 n7)
        | cont =>
          obtain ⟨σ7, H7, G7, n7⟩ := hs
          exact seg_again rfl (again hn' G7 n7)
        | brk =>
          obtain ⟨σ7, H7, G7, n7⟩ := hs
          exact seg_leaf (.ok .next) (k.ok n' ys' s₀' s7 .next hn' ⟨σ7, H7, out G7, n7⟩)
        | ret v =>
          obtain ⟨v7, σ7, H7, G7, r7, n7⟩ := hs
          exact seg_leaf (.ok (.ret v)) (k.ok n' ys' s₀' s7 (.ret v) hn' ⟨v7, σ7, H7, out G7, r7, n7⟩)
  exact loop m0 n ys s₀ s2 0 σ H2 hn w0 ⟨acc, cc, r, I2⟩ st2 fun b hb => (f2 b hb).1
end
end
section
open PySem.Spec PyProof.Rows GenW
theorem fun_gen {P : Program} {w : World} {K : PySem.W.Frag} {mg : Str → Option Value} {base : Heap} {x qual : Str} {st : Stmt} {f : Addr} {fd : FuncData} {N ps : List Str} {k : Nat} {sp : SpG} (F : Fun K x qual st f fd) (S : GScope N ps (defScope st)) (len : ∀ vs H Q E, sp vs H Q E → vs.length = ps.length)
    (hbody : ∀ (cdv : Value) (A : Around) (outer : List Env) (s : Shared) (H : Hp) (vs : List V) (Q : List V → Hp → Prop) (E : XK) (pn : List (Addr × Obj)), Room k (A.deeper (envOfC qual (defScope st) s.heap.objs.size f cdv)) → sp vs H Q E →
      ∃ t, GSs (gcxOf P w K mg base N qual (defScope st) f cdv A outer s H E pn) (defBody st) t ∧ t { nx := fun ys _ H' => Q ys H', rt := fun ys v H' => v = .non ∧ Q ys H' } [] (start N vs) H) : GFn P w K mg base (k + 1) f fd ps sp := by
  obtain ⟨oc, od, kV, doc, pm, an, cdv, ct, osl, rfl, lk, hcd⟩ := F.ex
  exact gfn_of lk hcd S len fun A outer s H vs Q E pn hr hsp => hbody cdv A outer s H vs Q E pn hr hsp
/-- over a list that the body leaves as it is -/
theorem gfor_list {K : PySem.W.Frag} {a : Addr} {xs : List V} {g : TG} {tb : TGn} {D : GEnds} {ys : List V} {σ : L2.St} {H : Hp} (Pv : Nat → List V → L2.St → Hp → Prop) (h0 : Pv 0 ys σ H) (hl : ∀ i ys σ H, i ≤ xs.length → Pv i ys σ H → SqL K H a xs)
    (hs : ∀ i x ys σ H, xs[i]? = some x → Pv i ys σ H → g x σ H fun σ2 H2 => tb { D with nx := Pv (i + 1), ct := Pv (i + 1), bk := D.nx } ys σ2 H2) (hd : ∀ ys σ H, Pv xs.length ys σ H → D.nx ys σ H) :
    ∃ W : Nat → Nat → List V → L2.St → Hp → Prop, (∃ m, W 0 m ys σ H) ∧ ∀ i m ys σ H, W i m ys σ H →
      ((Itl K a).stop i H ∧ D.nx ys σ H) ∨ ((Itl K a).go i H ∧ ∃ N : List V → L2.St → Hp → Prop, (∀ ys' σ' H', N ys' σ' H' → ∃ m', m' < m ∧ W (i + 1) m' ys' σ' H') ∧ ∀ x H', (Itl K a).yld i H x H' → g x σ H' fun σ2 H2 => tb { D with nx := N, ct := N, bk := D.nx } ys σ2 H2) := by
  refine ⟨fun i m ys σ H => m = xs.length - i ∧ i ≤ xs.length ∧ Pv i ys σ H, ⟨xs.length, by simp, Nat.zero_le _, h0⟩, ?_⟩
  rintro i m ys σ H ⟨rfl, hi, p⟩
  have q := hl i ys σ H hi p
  by_cases hlt : i < xs.length
  · refine .inr ⟨⟨xs, xs[i], q, by simp [hlt]⟩, Pv (i + 1), fun ys' σ' H' p' => ⟨xs.length - (i + 1), by omega, rfl, hlt, p'⟩, fun x H' y => ?_⟩
    obtain ⟨e, y⟩ := y
    subst e
    exact hs i x ys σ _ (y xs q) p
  · have e : i = xs.length := by omega
    subst e
    exact .inl ⟨⟨xs, q, Nat.le_refl _⟩, hd ys σ H p⟩
theorem noStop0 {K : PySem.W.Frag} : NoStop K E0 := fun _ _ _ h => nomatch h
end
/-! ### a dict comprehension over a list that stays -/
section
open PySem PySem.Spec PyProof.Rows
theorem dc_list {K : PySem.W.Frag} {a : Addr} {xs : List V} {g : TG} {tt : TT} {tk tv : TE} {vs : List Nat} {σ : L2.St} {H1 : Hp} {D : Addr} {Qd : Hp → Prop} (Pv : Nat → Hp → Prop) (h0 : Pv 0 (upd H1 D (.dK []))) (hl : ∀ i H, i ≤ xs.length → Pv i H → SqL K H a xs)
    (hs : ∀ i x H, xs[i]? = some x → Pv i H → g x (wipe σ vs) H fun σ2 H2 => wipe σ2 vs = wipe σ vs ∧ tt σ2 H2 fun b H3 =>
      if b = true then tk σ2 H3 fun y H4 => tv σ2 H4 fun z H5 => ∃ kvs k, y = kV k ∧ H5 D = some (.dK kvs) ∧ kvs.length < sizeLine ∧ Pv (i + 1) (upd H5 D (.dK (putK kvs k z))) else Pv (i + 1) H3) (hd : ∀ H, Pv xs.length H → Qd H) :
    ∃ W : Nat → Nat → Hp → Prop, (∃ m, W 0 m (upd H1 D (.dK []))) ∧ ∀ i m H, W i m H →
      ((Itl K a).stop i H ∧ Qd H) ∨ ((Itl K a).go i H ∧ ∃ Nx : Hp → Prop, (∀ H', Nx H' → ∃ m', m' < m ∧ W (i + 1) m' H') ∧ ∀ x H', (Itl K a).yld i H x H' → g x (wipe σ vs) H' fun σ2 H2 => wipe σ2 vs = wipe σ vs ∧ tt σ2 H2 fun b H3 =>
        if b = true then tk σ2 H3 fun y H4 => tv σ2 H4 fun z H5 => ∃ kvs k, y = kV k ∧ H5 D = some (.dK kvs) ∧ kvs.length < sizeLine ∧ Nx (upd H5 D (.dK (putK kvs k z))) else Nx H3) := by
  refine ⟨fun i m H => m = xs.length - i ∧ i ≤ xs.length ∧ Pv i H, ⟨xs.length, by simp, Nat.zero_le _, h0⟩, ?_⟩
  rintro i m H ⟨rfl, hi, p⟩
  have q := hl i H hi p
  by_cases hlt : i < xs.length
  · refine .inr ⟨⟨xs, xs[i], q, by simp [hlt]⟩, Pv (i + 1), fun H' p' => ⟨xs.length - (i + 1), by omega, rfl, hlt, p'⟩, fun x H' y => ?_⟩
    obtain ⟨e, y⟩ := y
    subst e
    exact hs i x _ (y xs q) p
  · have e : i = xs.length := by omega
    subst e
    exact .inl ⟨⟨xs, q, Nat.le_refl _⟩, hd H p⟩
end
/-! ### own errors as values: made, asked for their class, read -/
section
open PySem PySem.Spec PySem.Calls PySem.W PyProof.Rows
/-- what isinstance asks of the classes of errors -/
structure ExK (K : PySem.W.Frag) (D : Addr) : Prop where
  e1 : findIn K (.ref D) "__getattribute__" = some (some (.builtin "BaseException.__getattribute__"))
  e2 : findIn K (.ref D) "__getattr__" = some none
  e3 : subIn K (.ref D) (.type "BaseException") = some true
  e4 : hasDictIn K D = true
  e5 : findIn K (.ref D) "__class__" = some (some (.builtin "object.__class__"))
  e6 : specialIn K (.builtin "object.__class__") "__get__" = some (some (.builtin "getset_descriptor.__get__"))
  e7 : takesIn K (.builtin "object.__class__") = some true
  e8 : mroIn K D (.type "object") = some true
variable {K : PySem.W.Frag} {D x : Addr} {ox : Obj} {od : Option Obj}
theorem ExK.hasCls (T : ExK K D) : ∃ cd, clsIn K D = some cd := by
  obtain ⟨cd, h, _⟩ := any_some T.e4
  exact ⟨cd, h⟩
theorem ExK.found (T : ExK K D) : findObj K D od "__class__" = some (.bind (.builtin "getset_descriptor.__get__") (.builtin "object.__class__")) := by
  obtain ⟨cd, h⟩ := T.hasCls
  unfold findObj
  simp [h, T.e5, T.e6, T.e7]
theorem ExK.named {prog : Program} {w : World} {A : Around} {E : Value → Shared → Prop} {s : Shared} {Q : Option Value → Shared → Prop} (T : ExK K D) (KX : K.In s.heap) (J : InstAt s.heap x ox D od)
    (q : Q (some (.ref D)) { s with toks := s.toks + 1 }) : wpAny (model prog w) A (getAttr? (.ref x) "__class__") Q E s := by
  obtain ⟨hp, gs, dr, tk, so⟩ := s
  have isX : Looks (model prog w) hp (isInstance (.ref x) (.type "BaseException")) true := J.type.andThen (looks_subIn KX T.e3)
  have no : (Value.builtin "BaseException.__getattribute__" == Value.builtin "object.__getattribute__") = false := by decide +kernel
  have no2 : (onTheHeap (Value.ref D) && Value.builtin "BaseException.__getattribute__" == Value.builtin "object.__getattribute__") = false := by rw [no]; rfl
  unfold getAttr? getAttrBy? getAttrBy
  refine wpAny_bind (wpAny_mkText (wpAny_bind (wpAny_attempt (wpAny_holding (wpAny_bind (Looks.at J.type (wpAny_bind (Looks.at (looks_findIn KX T.e1) ?_))))))))
  show wpAny _ _ (ite ((onTheHeap (Value.ref D) && Value.builtin "BaseException.__getattribute__" == Value.builtin "object.__getattribute__") = true) _ _) _ _ _
  rw [no2, if_neg Bool.false_ne_true]
  unfold getAttrByItsOwn hookBefore
  refine wpAny_bind ?_
  rw [if_pos (show onTheHeap (Value.ref D) = true from rfl)]
  refine Looks.at (looks_findIn KX T.e2) (wpAny_bind (wpAny_attempt (wpAny_holding ?_)))
  unfold callGetattribute
  rw [if_neg (show ¬ (false && onTheHeap (Value.builtin "BaseException.__getattribute__")) = true from Bool.false_ne_true)]
  unfold boundAndCalled
  rw [PySem.F.excAttr_ValueError.ga.bind (.ref x)]
  refine wpAny_bind (wpAny_pure (wpAny_call (codeAny_call_builtin PySem.F.excAttr_ValueError.ga.plain PySem.F.entry_bexc_ga ?_)))
  refine @check_slot (model prog w) _ _ ⟨hp, gs, dr, tk + 1, so⟩ "BaseException.__getattribute__" "BaseException" "__getattribute__" (.ref x) [.str "__class__" tk] [] _ (by decide +kernel) (by decide +kernel) isX (PySem.F.args_bexc_ga (.ref x) (.str "__class__" tk)) ?_
  unfold Builtin.«object.__getattribute__»
  refine wpAny_bind (wpAny_of_eq (a := ((Value.ref x : Value), [Value.str "__class__" tk])) (by first | rfl | (simp only [slotArgs]; rfl)) ?_)
  refine wpAny_bind (wpAny_pure (wpAny_bind (Looks.at J.type (wpAny_bind (Looks.at (looks_find KX J T.found) ?_)))))
  refine wpAny_bind (wpAny_holding (wpAny_call (class_get (s := ⟨hp, gs, dr, tk + 1, so⟩) (ox := ox) (od := od) KX J T.e8 (wpAny_pure ?_))))
  show wpAny _ _ (handedOut (.ref D)) _ _ _
  rw [handedOut_of (v := .ref D) rfl]
  first
    | exact wpAny_pure (wpAny_pure q)
    | exact wpAny_pure q
    | exact wpAny_pure (wpAny_bind (wpAny_pure (wpAny_pure q)))
theorem ExK.kit (T : ExK K D) : KitX K (.ref x) (.ref D) (fun h => ∃ od, InstAt h x ox D od) where
  ty := fun _ _ _ ⟨_, I⟩ => I.type
  it := fun _ _ X _ A Q E s k q => by
    obtain ⟨cd, hc⟩ := T.hasCls
    unfold clsIn at hc
    split at hc
    · rename_i ho
      unfold isType loadHead
      exact wpAny_bind (wpAny_loadPart (k _ _ (X _ _ ho)) (wpAny_pure q))
    · cases hc
  ne := fun h tp dd its n sl X htp => Bool.eq_false_iff.mpr fun q => by
    cases Value.ref.inj (beq_iff_eq.mp q)
    obtain ⟨cd, hc⟩ := T.hasCls
    unfold clsIn at hc
    split at hc
    · rename_i ho
      cases (X _ _ ho).symm.trans htp
    · cases hc
  ca := fun X ⟨_, I⟩ k => T.named X I k
end
/-! ### list comprehensions over lists, while an exception is handled -/
section
open PySem PySem.Spec PyProof.Rows L2 HotX L2H
section
variable {prog : Program} {w : World} {A : Around} {E : Value → Shared → Prop} {s : Shared}
theorem pyNext_list_end_hot {it l x1 : Addr} {i : Nat} {items : Array Value} {Q : Option Value → Shared → Prop} (hot : HotAt A x1 s.heap) (hit : s.heap.IsListIter it l i) (hl : s.heap.IsList l items) (hx : items[i]? = none) (hne : x1 ≠ it)
    (hQ : ∀ h', (∀ b o, b ≠ it → s.heap.get? b = some o → h'.get? b = some o) → Q none { s with heap := h' }) : wpAny (model prog w) A (pyNext (.ref it)) Q E s := by
  obtain ⟨o, ho, hc, hd⟩ := id hit
  obtain ⟨ol, hol, _, nl, hdl⟩ := hl
  obtain ⟨hh, o1, vs1, h1, d1, c1⟩ := hot
  unfold pyNext
  refine wpAny_bind (wpAny_attempt (wpAny_callSpecial?_slot (name := Str.ofString "__next__") hit.typeIs slot_listiter_next
    (wpAny_call_entry slot_listiter_next hit.typeIs entry_listiter_next ?_ (args_listiter_next _))))
  show wpAny _ _ (field (.ref it) 0 >>= _) _ _ s
  refine wpAny_bind (wpAny_field ho hd (x := .ref l) rfl ?_)
  show wpAny _ _ (if (Value.ref l == Value.none) = true then _ else _) _ _ s
  rw [if_neg (show ¬ ((Value.ref l == Value.none) = true) from Bool.false_ne_true)]
  show wpAny _ _ (field (.ref it) 1 >>= _) _ _ s
  refine wpAny_bind (wpAny_field ho hd (x := .int i 0) rfl ?_)
  show wpAny _ _ (seqItems? (.ref l) >>= _) _ _ s
  refine wpAny_bind (wpAny_seqItems hol hdl ?_)
  simp only [Int.toNat_natCast, hx]
  refine wpAny_bind (wpAny_rule (wpAny_bind (wpAny_setField ho hd (by simp) ?_)))
  show wpAny _ _ (newExc (.type "StopIteration") [] >>= _) _ _ _
  refine wpAny_bind ?_
  simp only [newExc, newTuple]
  refine wpAny_bind (wpAny_newObj_type ?_ (by size_fits))
  refine wpAny_bind (m := firstArgMember _ _) (wpAny_of_eq (a := Value.none) (by first | rfl | (simp only [firstArgMember]; rfl)) ?_)
  refine wpAny_newObj_type ?_ (by size_fits)
  have h2 : ∀ {f : Obj → Obj}, (s.heap.update it f).get? x1 = some o1 := by
    intro f
    rw [Heap.get?_update_other _ _ (Ne.symm hne)]
    exact h1
  refine raiseNew_hot ⟨hh, o1, vs1, Heap.get?_push_of_some _ (Heap.get?_push_of_some _ h2), d1, c1⟩ (Nat.ne_of_lt (Heap.lt_size (Heap.get?_push_of_some _ h2))) (Heap.get?_push_size _ rfl) rfl (by first | (simp; done) | (simp; omega) | (simp only [Array.size_append]; simp; omega)) ?_
  refine wpAny_bind (wpAny_isInstance (T := "StopIteration") (b := true) ⟨_, Heap.get?_update_self _ (Heap.get?_push_size _ rfl) rfl, rfl⟩ isSubtype_stop ?_)
  refine wpAny_pure (hQ _ fun b o hb e => ?_)
  have e2 : ∀ {f : Obj → Obj}, (s.heap.update it f).get? b = some o := by
    intro f
    rw [Heap.get?_update_other _ _ (Ne.symm hb)]
    exact e
  rw [Heap.get?_update_other _ _ (Nat.ne_of_gt (Heap.lt_size (Heap.get?_push_of_some _ e2)))]
  exact Heap.get?_push_of_some _ (Heap.get?_push_of_some _ e2)
end
end
/-! ### list comprehensions while an exception is handled: the turns -/
section
open PySem PySem.Spec PyProof.Rows L2 HotX L2H
/-- a turn that asks of the state that the handled exception stands -/
structure TurnX (P : Program) (w : World) (K : PySem.W.Frag) (tg : Expr) (J : It) (fp : List Addr) (it : Addr) (tn : Nat → Heap → Prop) : Prop where
  mem : it ∈ fp
  obj : ∀ i h, tn i h → ∀ b ∈ fp, ∃ o, h.get? b = some o ∧ ∀ v, o.data ≠ .cell v
  keep : ∀ i h h', tn i h → (∀ b ∈ fp, ∀ o, h.get? b = some o → h'.get? b = some o) → tn i h'
  item : ∀ (X : Cx), X.prog = P → X.w = w → X.K = K → ∀ (x1 : Addr) (i : Nat) (pins : List (Addr × Obj)) (s : Shared) (σ : L2.St) (H : Hp) (E : Value → Shared → Prop), HotAt X.A x1 s.heap → x1 ∉ fp → Inv X pins σ H s → (∀ b ∈ fp, FpOk X pins H b) → tn i s.heap → J.go i H →
    wpAny (model P w) X.A (pyNext (.ref it)) (fun r s1 => ∃ u, r = some u ∧
      wpAny (model P w) X.A (letOwnedTupleGo tg (.ref it) u) (fun _ s2 => ∃ x H', Inv X pins σ H' s2 ∧ RelV x u ∧ J.yld i H x H' ∧ tn (i + 1) s2.heap ∧ ∀ b ∈ fp, H' b = none) E s1) E s
  done : ∀ (X : Cx), X.prog = P → X.w = w → X.K = K → ∀ (x1 : Addr) (i : Nat) (pins : List (Addr × Obj)) (s : Shared) (σ : L2.St) (H : Hp) (E : Value → Shared → Prop), HotAt X.A x1 s.heap → x1 ∉ fp → Inv X pins σ H s → (∀ b ∈ fp, FpOk X pins H b) → tn i s.heap → J.stop i H →
    wpAny (model P w) X.A (pyNext (.ref it)) (fun r s1 => r = none ∧ Inv X pins σ H s1) E s
  self : ∀ (A : Around) (i : Nat) (s : Shared) (Q : Value → Shared → Prop) (E : Value → Shared → Prop), tn i s.heap → Q (.ref it) s → wpAny (model P w) A (pyIter (.ref it)) Q E s
theorem turnx_list {P : Program} {w : World} {K : PySem.W.Frag} {tg : Expr} (l it : Addr) : TurnX P w K tg (Itl K l) [it] it (fun i h => h.IsListIter it l i) where
  mem := (turn_list (P := P) (w := w) (K := K) (tg := tg) l it).mem
  obj := (turn_list (P := P) (w := w) (K := K) (tg := tg) l it).obj
  keep := (turn_list (P := P) (w := w) (K := K) (tg := tg) l it).keep
  item := by
    intro X eP ew eK x1 n ps z τ G E _ _ J fo stands more
    subst eP ew eK
    obtain ⟨zs, x, sq, at_⟩ := more
    obtain ⟨us, rel, li, _⟩ := J.list sq
    obtain ⟨u, at_u, ru⟩ := rel.get at_
    obtain ⟨g0, g1, g2, g3, g4, g5⟩ := fo it (List.mem_singleton.mpr rfl)
    refine wpAny_pyNext_list_item stands li.isList (x := u) (by simpa using at_u) fun k stands2 same => ?_
    have J2 : Inv X ps τ G { z with heap := k } := J.turned (t' := z.toks) (fun b o ne e => (same.2 b ne).trans e) g0 g1 g3 g4 g5
    obtain ⟨o, eo, co, do_⟩ := id stands2
    refine ⟨u, rfl, go_of (s := { z with heap := k }) eo co do_ (by decide) ⟨x, G, J2, ru, ⟨rfl, fun ys hy => ?_⟩, stands2, fun b hb => (fo b hb).1⟩⟩
    rw [J.list_inj hy sq]; exact at_
  done := by
    intro X eP ew eK x1 n ps z τ G E hot out J fo stands over
    subst eP ew eK
    obtain ⟨zs, sq, le⟩ := over
    obtain ⟨us, rel, li, _⟩ := J.list sq
    obtain ⟨g0, g1, g2, g3, g4, g5⟩ := fo it (List.mem_singleton.mpr rfl)
    have hl := rel.length
    exact pyNext_list_end_hot hot stands li.isList (by simp; omega) (fun q => out (List.mem_singleton.mpr q)) fun k same => ⟨rfl, J.turned (t' := z.toks) (fun b o ne e => same b o ne e) g0 g1 g3 g4 g5⟩
  self := (turn_list (P := P) (w := w) (K := K) (tg := tg) l it).self
/-- an iterator has come -/
def PIEX (X : Cx) (pins : List (Addr × Obj)) (σ : L2.St) (tg : Expr) (R : It → Hp → Prop) (v : Value) (z : Shared) : Prop :=
  ∃ (it : Addr) (fp : List Addr) (tn : Nat → Heap → Prop) (J : It) (G : Hp), v = .ref it ∧ Inv X pins σ G z ∧ TurnX X.prog X.w X.K tg J fp it tn ∧ tn 0 z.heap ∧ (∀ b ∈ fp, FpOk X pins G b) ∧ R J G
structure PIX (X : Cx) (tg iter : Expr) (wi : TI) : Prop where
  run : ∀ (pins : List (Addr × Obj)) (s : Shared) (σ : L2.St) (H : Hp) (R : It → Hp → Prop), Inv X pins σ H s → wi σ H R →
    wpAny (model X.prog X.w) X.A (eval iter X.env) (fun v s1 => wpAny (model X.prog X.w) X.A (pyIter v) (PIEX X pins σ tg R) X.xe s1) X.xe s
theorem pix_list {X : Cx} {tg l : Expr} {tl : TE} (pl : PE X l tl) : PIX X tg l (iList X.K tl) := by
  refine ⟨fun ps z τ G R J w => thn (pl.run ps z τ G _ J w) fun v z1 ⟨x, G1, J1, r1, w1⟩ => ?_⟩
  obtain ⟨a, rfl, ⟨ys, sq⟩, w1⟩ := w1
  obtain rfl : v = Value.ref a := r1
  obtain ⟨us, _, li, _⟩ := J1.list sq
  refine wpAny_pyIter_list li.isList ⟨_, [z1.heap.objs.size], _, _, G1, rfl, J1.kept (t' := z1.toks) fun b o e => Heap.get?_push_of_some _ e, turnx_list a _, ⟨_, Heap.get?_push_size _ rfl, rfl, rfl⟩, fun b hb => ?_, w1⟩
  rw [List.mem_singleton.mp hb]
  exact J1.fpOk (Nat.le_refl _) (J1.hok.fresh (Nat.le_refl _))
/-- the handled exception stands in the block -/
theorem blk_pin {X : Cx} {pins : List (Addr × Obj)} {σ : L2.St} {H : Hp} {s : Shared} {p : Addr × Obj} {scope : Scope} {own : List (Str × Nat)} {fp : List Addr} (I : Inv X pins σ H s) (hp : p ∈ X.pn) (ok : BlkOk X.N X.env.scope scope own) (hN : X.N.Nodup) (hfp : ∀ b ∈ fp, FpOk X pins H b ∧ b < s.heap.objs.size) :
    Inv (X.blk s H scope (compEnvC scope (cellsFrom (s.heap.objs.size + 1) scope.names (cloFrom X.env.cells scope.names [])) s.heap.objs.size X.env) fp) [p] (wipe σ (own.map (·.2))) H { s with heap := pushCells (s.heap.push { cls := .type "dict", data := .dict #[] }) scope.names } := by
  obtain ⟨g1, g2, g3, g4, g5⟩ := I.pin p (List.mem_append_left _ hp)
  refine (block_start I ok hN hfp).pins_of fun q hq => ?_
  obtain rfl : q = p := List.mem_singleton.mp hq
  refine ⟨pushCells_keeps _ _ _ _ (Heap.get?_push_of_some _ g1), g2, Nat.ne_of_lt (Heap.lt_size g1), fun z => ?_, g5⟩
  exact (List.mem_cons.mp (I.stkSub _ z)).elim g3 g4
section
variable {X : Cx}
theorem lcx_core {pins : List (Addr × Obj)} {s : Shared} {σ : L2.St} {H : Hp} {Q : VK} {elt tg iter : Expr} {ifs : List Expr} {scope : Scope} {own : List (Str × Nat)} {pos pos' : Pos} {wi : TI} {g : TG} {tt : TT} {te : TE} {use : Option (Value → Sem Unit)} {Qf : Value → Shared → Prop}
    (hot : HotC X) (nd : X.N.Nodup) (I : Inv X pins σ H s) (hi : PIX X tg iter wi) (ok : BlkOk X.N X.env.scope scope own)
    (hg : ∀ (s : Shared) (H : Hp) (C : Addr) (cl : List (Str × Addr)) (fp : List Addr), PG (X.blk s H scope (compEnvC scope cl C X.env) fp) tg g) (ht : ∀ (s : Shared) (H : Hp) (C : Addr) (cl : List (Str × Addr)) (fp : List Addr), PTs (X.blk s H scope (compEnvC scope cl C X.env) fp) ifs tt)
    (he : ∀ (s : Shared) (H : Hp) (C : Addr) (cl : List (Str × Addr)) (fp : List Addr), PE (X.blk s H scope (compEnvC scope cl C X.env) fp) elt te) (hs : ∀ x, foldedSetIterable iter X.env x = pure x)
    (h : tLc wi g tt te (own.map (·.2)) σ H Q)
    (hRR : ∀ D C s' m H', Inv X pins σ H' s' → Q (.ref D) H' → s'.heap.Ns C m → FpOk X pins H' C → compPost (model X.prog X.w) X.A X.xe use Qf (.ref D) C (.ok .next) s') :
    wpAny (model X.prog X.w) X.A (comprehension (.ListComp elt [⟨tg, iter, ifs, 0⟩] scope pos) scope X.env pos' (newList []) false (eval iter X.env) use) Qf X.xe s := by
  obtain ⟨p, ⟨hd, v1, dv, nx⟩, inp⟩ := hot
  have cells : ∀ y ∈ scope.names, y.2 = .free → ∃ c, X.env.cells.lookup y.1 = some c := fun y hy e => (ok.free y hy e).elim (fun k => I.ok.has y.1 (.inl k)) fun k => I.ok.has y.1 (.inr k)
  refine wpAny_comprehension_free (use := use) rfl hs (closure_ok cells) ok.kind (fun y hy e => by rw [ok.uniq y hy, e]) (thn (hi.run pins s σ H _ I h) fun v z1 k => thn k fun v2 z2 k2 => ?_)
  obtain ⟨it, fp, tn, J, G2, rfl, K2, T, t2, fo, q⟩ := k2
  refine wpAny_newObj_type (newEnv_comp ?_) (by show 0 ≤ sizeLine; decide)
  have szf : ∀ b ∈ fp, b < z2.heap.objs.size := fun b hb => by
    obtain ⟨o, e, _⟩ := T.obj 0 z2.heap t2 b hb
    exact Heap.lt_size e
  have hout : p.1 ∉ fp := fun z => (fo p.1 z).2.2.2.2.2 p (List.mem_append_left _ inp) rfl
  have nL : G2 z2.heap.objs.size = none := K2.hok.fresh (Nat.le_refl _)
  obtain ⟨W, ⟨m0, w0⟩, turn⟩ := q _ nL
  have K3 : Inv X pins σ (upd G2 z2.heap.objs.size (.lst [])) { z2 with heap := z2.heap.push { cls := .type "list", data := .seq ([] : List Value).toArray } } :=
    K2.laid (t' := z2.toks) (fun b o e => Heap.get?_push_of_some _ e) (Nat.le_refl _) ⟨Nat.zero_le _, [], 0, .nil, Heap.get?_push_size _ rfl⟩
  have f3 : ∀ b ∈ fp, FpOk X pins (upd G2 z2.heap.objs.size (.lst [])) b ∧ b < (z2.heap.push { cls := .type "list", data := .seq ([] : List Value).toArray }).objs.size := fun b hb => by
    have lt := szf b hb
    exact ⟨⟨by rw [upd_ne (Nat.ne_of_lt lt)]; exact (fo b hb).1, (fo b hb).2⟩, by rw [Heap.size_push]; exact Nat.lt_succ_of_lt lt⟩
  have t3 : tn 0 (z2.heap.push { cls := .type "list", data := .seq ([] : List Value).toArray }) := T.keep _ _ _ t2 fun b _ o e => Heap.get?_push_of_some _ e
  generalize hz3 : ({ z2 with heap := z2.heap.push { cls := .type "list", data := .seq ([] : List Value).toArray } } : Shared) = z3 at K3
  have h3 : z3.heap = z2.heap.push { cls := .type "list", data := .seq ([] : List Value).toArray } := by rw [← hz3]
  rw [← h3] at f3 t3
  generalize z2.heap.objs.size = D at *
  have K4 := blk_pin K3 inp ok nd f3
  show codeAny _ _ (.compStart (.ListComp elt [⟨tg, iter, ifs, 0⟩] scope pos) 0 (.ref it) (.ref D) (compEnvC scope (cellsFrom (z3.heap.objs.size + 1) scope.names (cloFrom X.env.cells scope.names [])) z3.heap.objs.size X.env)) (compPost (model X.prog X.w) X.A X.xe use Qf (.ref D) z3.heap.objs.size) { z3 with heap := pushCells (z3.heap.push { cls := .type "dict", data := .dict #[] }) scope.names }
  have gP := hg z3 (upd G2 D (.lst [])) z3.heap.objs.size (cellsFrom (z3.heap.objs.size + 1) scope.names (cloFrom X.env.cells scope.names [])) fp
  have tP := ht z3 (upd G2 D (.lst [])) z3.heap.objs.size (cellsFrom (z3.heap.objs.size + 1) scope.names (cloFrom X.env.cells scope.names [])) fp
  have eP := he z3 (upd G2 D (.lst [])) z3.heap.objs.size (cellsFrom (z3.heap.objs.size + 1) scope.names (cloFrom X.env.cells scope.names [])) fp
  have out3 : ∀ b ∈ fp, (upd G2 D (.lst [])) b = none := fun b hb => (f3 b hb).1.1
  generalize eB : compEnvC scope (cellsFrom (z3.heap.objs.size + 1) scope.names (cloFrom X.env.cells scope.names [])) z3.heap.objs.size X.env = B at K4 gP tP eP ⊢
  have locB : B.locals = z3.heap.objs.size := by rw [← eB]; rfl
  generalize upd G2 D (.lst []) = G3 at K3 K4 gP tP eP w0 out3 f3
  generalize hz4 : ({ z3 with heap := pushCells (z3.heap.push { cls := .type "dict", data := .dict #[] }) scope.names } : Shared) = z4 at K4 ⊢
  have t4 : tn 0 z4.heap := T.keep _ _ _ t3 fun b _ o e => by rw [← hz4]; exact pushCells_keeps _ _ _ _ (Heap.get?_push_of_some _ e)
  have hotB : ∀ {τ : L2.St} {G : Hp} {z : Shared} {more : List (Addr × Obj)}, Inv (X.blk z3 G3 scope B fp) ([p] ++ more) τ G z → HotAt X.A p.1 z.heap := fun k => ⟨hd, p.2, v1, (k.pin p (List.mem_append_right _ (List.mem_append_left _ (List.mem_singleton.mpr rfl)))).1, dv, nx⟩
  have fpB : ∀ {τ : L2.St} {G : Hp} {z : Shared}, Inv (X.blk z3 G3 scope B fp) [p] τ G z → (∀ b ∈ fp, G b = none) → ∀ b ∈ fp, FpOk (X.blk z3 G3 scope B fp) [p] G b := fun k n b hb =>
    ⟨n b hb, (k.ok.exf b hb).1, k.ok.exfs b hb, .inl hb, fun x c e => (k.ok.exf b hb).2 x c e, fun r hr z => hout (by rw [List.mem_singleton.mp (show r ∈ [p] from hr)] at z; rw [z]; exact hb)⟩
  have loop : codeAny (model X.prog X.w) X.A (.compLoop (.ListComp elt [⟨tg, iter, ifs, 0⟩] scope pos) 0 (.ref it) (.ref D) B) (compPost (model X.prog X.w) X.A X.xe use Qf (.ref D) z3.heap.objs.size) z4 := by
    refine compLoop_any (fun n z => ∃ i G, Inv (X.blk z3 G3 scope B fp) [p] (wipe σ (own.map (·.2))) G z ∧ tn i z.heap ∧ (∀ b ∈ fp, G b = none) ∧ W i n G) ?_ m0 ⟨0, G3, K4, t4, out3, w0⟩
    rintro n z5 ⟨i, G5, K5, t5, n5, w5⟩
    rcases turn i n G5 w5 with ⟨stop, fin⟩ | ⟨go, Nx, less, step⟩
    · refine thnF (T.done (X.blk z3 G3 scope B fp) rfl rfl rfl p.1 i [p] z5 _ G5 (fun _ _ => False) (hotB (more := []) K5) hout K5 (fpB K5 n5) t5 stop) fun r z6 ⟨none_, K6⟩ => ?_
      subst none_
      have K7 : Inv X pins σ G5 z6 := K3.call' (ch := fp) K6.os K6.base K6.hok K6.bare fun b hb => ⟨(f3 b hb).1.2.2.2.1, (f3 b hb).1.2.1, (f3 b hb).1.2.2.2.2.1, (f3 b hb).1.2.2.2.2.2⟩
      have nC : G5 z3.heap.objs.size = none := locB ▸ K6.free
      obtain ⟨m, ns, _⟩ := K6.loc
      have ns : z6.heap.Ns B.locals m := ns
      rw [locB] at ns
      exact hRR D _ z6 m G5 K7 fin ns (K3.fpOk (Nat.le_refl _) nC)
    · refine thnF (T.item (X.blk z3 G3 scope B fp) rfl rfl rfl p.1 i [p] z5 _ G5 (fun _ _ => False) (hotB (more := []) K5) hout K5 (fpB K5 n5) t5 go) fun r z6 ⟨u, some_, k6⟩ => ?_
      subst some_
      refine thnF k6 fun _ z7 ⟨x, G7, K7, r7, y7, t7, n7⟩ => ?_
      have P7 := K7.pinned (fpB K7 n7) (T.obj _ _ t7)
      refine thnF (gP.run _ z7 _ G7 x u _ P7 r7 (step x G7 y7)) fun _ z8 ⟨τ, G8, K8, same, q8⟩ => ?_
      refine thnF (tP.run _ z8 τ G8 _ K8 q8) fun b z9 ⟨G9, K9, q9⟩ => ?_
      have again : ∀ {z : Shared} {G : Hp}, Inv (X.blk z3 G3 scope B fp) ([p] ++ pinsAt fp z7.heap) τ G z → Nx G → ∃ m, m < n ∧ ∃ i G, Inv (X.blk z3 G3 scope B fp) [p] (wipe σ (own.map (·.2))) G z ∧ tn i z.heap ∧ (∀ b ∈ fp, G b = none) ∧ W i m G := by
        intro z G k nx
        obtain ⟨m, lt, w6⟩ := less G nx
        have stay : ∀ b ∈ fp, ∀ o, z7.heap.get? b = some o → z.heap.get? b = some o ∧ G b = none := fun b hb o e => by
          obtain ⟨k1, k2, _⟩ := k.pin (b, o) (List.mem_append_right _ (List.mem_append_right _ (mem_pinsAt hb e)))
          exact ⟨k1, k2⟩
        refine ⟨m, lt, i + 1, G, k.unpinned.weak (by rw [← same, wipe_length]) fun j v e => ?_, T.keep _ _ _ t7 fun b hb o e => (stay b hb o e).1, fun b hb => ?_, w6⟩
        · rw [← same] at e
          exact (wipe_some e).1
        · obtain ⟨o, e, _⟩ := T.obj _ _ t7 b hb
          exact (stay b hb o e).2
      cases b with
      | false => exact again K9 q9
      | true =>
        refine thnF (eP.run _ z9 τ G9 _ K9 q9) fun v z10 ⟨y, G10, K10, r10, acc, at_, few, nx⟩ => ?_
        exact app_ok (X := X.blk z3 G3 scope B fp) K10 at_ few r10 fun z11 K11 => again K11 nx
  exact codeAny_compStart_list loop (T.self X.A 0 _ _ _ t4 loop)
/-- a list comprehension as a value, where an exception is handled -/
theorem pe_lcX {elt tg iter : Expr} {ifs : List Expr} {scope : Scope} {own : List (Str × Nat)} {pos : Pos} {wi : TI} {g : TG} {tt : TT} {te : TE} (hot : HotC X) (nd : X.N.Nodup) (hi : PIX X tg iter wi) (ok : BlkOk X.N X.env.scope scope own)
    (hg : ∀ (s : Shared) (H : Hp) (C : Addr) (cl : List (Str × Addr)) (fp : List Addr), PG (X.blk s H scope (compEnvC scope cl C X.env) fp) tg g) (ht : ∀ (s : Shared) (H : Hp) (C : Addr) (cl : List (Str × Addr)) (fp : List Addr), PTs (X.blk s H scope (compEnvC scope cl C X.env) fp) ifs tt)
    (he : ∀ (s : Shared) (H : Hp) (C : Addr) (cl : List (Str × Addr)) (fp : List Addr), PE (X.blk s H scope (compEnvC scope cl C X.env) fp) elt te) (hs : ∀ x, foldedSetIterable iter X.env x = pure x := by intro _; rfl) :
    PE X (.ListComp elt [⟨tg, iter, ifs, 0⟩] scope pos) (tLc wi g tt te (own.map (·.2))) := by
  refine ⟨fun ps z τ G Q J h => ?_⟩
  rw [eval_ListComp]
  refine lcx_core hot nd J hi ok hg ht he hs h fun D C z2 m G2 J2 q ns fo => ⟨m, ns, fun k same => ?_⟩
  obtain ⟨g0, g1, g2, g3, g4, g5⟩ := fo
  exact ⟨.ref D, G2, J2.turned (t' := z2.toks) (fun b o ne e => (same.2 b ne).trans e) g0 g1 g3 g4 g5, rfl, q⟩
end
end
/-! ### defs called where an exception is handled, the promise knowing which -/
section
open PySem PySem.Spec PyProof.Rows L2 HotX L2H
abbrev SpP := Addr × Obj → Sp
structure FnHP (P : Program) (w : World) (K : PySem.W.Frag) (mg : Str → Option Value) (base : Heap) (CX : CXT) (k : Nat) (f : Addr) (fd : FuncData) (ps : List Str) (sp : SpP) : Prop where
  len : ∀ p vs H Q E, sp p vs H Q E → vs.length = ps.length
  run : ∀ (A : Around) (outer : List Env) (s : Shared) (H : Hp) (args : Args) (us : List Value) (vs : List V) (Q : VK) (E : XK) (p : Addr × Obj), RoomH k A → Hot1 A p → PinOk outer H s p → Env0 P w K mg base A outer s H → BindsTo s fd args (ps.zip us) → Vals vs us → sp p vs H Q E →
    codeAny (model P w) A (.call (.ref f) args) (CR CX outer P w H s Q E) s
theorem fnHP_of {P : Program} {w : World} {K : PySem.W.Frag} {mg : Str → Option Value} {base : Heap} {CX : CXT} {x qual : Str} {st : Stmt} {f : Addr} {fd : FuncData} {N ps : List Str} {k : Nat} {sp : SpP} (F : Fun K x qual st f fd) (S : FnScope N ps (defScope st))
    (len : ∀ p vs H Q E, sp p vs H Q E → vs.length = ps.length)
    (hbody : ∀ (cdv : Value) (A : Around) (outer : List Env) (s : Shared) (H : Hp) (vs : List V) (Q : VK) (E : XK) (p : Addr × Obj), Hot1 A p → RoomH k (A.deeper (envOfC qual (defScope st) s.heap.objs.size f cdv)) → sp p vs H Q E →
      ∃ t, PSs (cxH CX P w K mg base N qual (defScope st) f cdv A outer s H E p) (defBody st) t ∧ t { nx := fun _ H' => Q .non H', rt := Q } (L2.start N vs) H) : FnHP P w K mg base CX (k + 1) f fd ps sp := by
  obtain ⟨oc, od, kV, doc, pm, an, cdv, ct, osl, rfl, lk, hcd⟩ := F.ex
  refine ⟨len, fun A outer z G args us vs Q E p room hot pin e0 hb rel q => ?_⟩
  have kin : K.In z.heap := e0.mod.kin.keeps fun b o e => (e0.bs b o e).1
  have lim : z.heap.NoLimit := e0.mod.nolimit.keeps fun b o e => (e0.bs b o e).1
  refine codeAny_call_function room.depth (kin _ _ lk) rfl S.co S.gen rfl (PySem.W.codeRec_of kin hcd) (hb _ _ _ _ ?_)
  refine wpAny_newFunctionEnv_cells S.kind (fun y hy => ?_) fun env eq z1 made => ?_
  · exact (S.par y.1 (List.of_mem_zip (a := y.1) (b := y.2) hy).1).elim .inl fun c => .inr ⟨c, PySem.W.cellsFrom_some _ _ _ (.inl c)⟩
  subst eq
  refine ⟨lim.keeps made.toInCall.keep, codeAny_func ?_⟩
  obtain ⟨t, body, holds⟩ := hbody cdv A outer z G vs Q E p hot (room.deeper _) q
  have J := inv_startH (CX := CX) (E := E) S pin e0 (len _ _ _ _ _ q) rel made
  refine wpAny_mono (body.run [] z1 _ G _ J holds) (fun fl z2 ends => ?_) fun _ _ a => a
  match fl, ends with
  | .ret u, ⟨v, τ, G2, J2, rv, q2⟩ => exact ⟨v, G2, J2.os, J2.bare, J2.base, J2.hok, rv, q2⟩
  | .next, ⟨τ, G2, J2, q2⟩ => exact ⟨.non, G2, J2.os, J2.bare, J2.base, J2.hok, rfl, q2⟩
  | .brk, ⟨_, _, _, q2⟩ => exact q2.elim
  | .cont, ⟨_, _, _, q2⟩ => exact q2.elim
section
variable {X : Cx} {CX : CXT} {k : Nat} {f : Addr} {fd : FuncData} {ps : List Str} {sp : SpP} {E : L2.St → XK} {x : Str} {q pos : Pos} {e : Expr} {es : List Expr} {t : TA} {p : Addr × Obj}
theorem run_fnHP {pins : List (Addr × Obj)} {σ : L2.St} {H : Hp} {s : Shared} {Q : VK} {us : List Value} {vs : List V} (F : FnHP X.prog X.w X.K X.mg X.base CX k f fd ps sp) (hr : RoomH k X.A) (hot : Hot1 X.A p) (inp : p ∈ X.pn) (hb : L2.Binds X.K fd ps []) (hx : PassesAt CX X σ (E σ))
    (I : Inv X pins σ H s) (r : Vals vs us) (h : sp p vs H Q (E σ)) : wpAny (model X.prog X.w) X.A (call (.ref f) us) (EP X pins σ Q) X.xe s := by
  have b := hb s us I.kIn (by rw [List.append_nil, ← r.length]; exact F.len _ _ _ _ _ h)
  rw [List.append_nil] at b
  obtain ⟨g1, g2, g3, g4, g5⟩ := I.pin p (List.mem_append_left _ inp)
  refine wpAny_call (codeAny_mono (F.run X.A X.stack s H ⟨us, []⟩ us vs Q (E σ) p hr hot ⟨g1, g2, fun z => (List.mem_cons.mp (I.stkSub _ z)).elim g3 g4, g5⟩ I.env0 b r h) fun o z a => ?_)
  match o, a with
  | .error e, a => exact hx pins H s e z I a
  | .ok (.ret u), a => exact I.after a
  | .ok .next, a => exact a.elim
  | .ok .brk, a => exact a.elim
  | .ok .cont, a => exact a.elim
theorem pe_callHP (F : FnHP X.prog X.w X.K X.mg X.base CX k f fd ps sp) (hr : RoomH k X.A) (hot : Hot1 X.A p) (inp : p ∈ X.pn) (hg : Gl X x) (hm : X.mg x = some (.ref f)) (hk : PySem.W.keepIn X.K (.ref f) = true) (hb : L2.Binds X.K fd ps []) (hx : ∀ σ, PassesAt CX X σ (E σ))
    (ha : PA X (e :: es) t) (hdb : (x == ("__debug__" : Str)) = false := by decide) (he : starEach (e :: es) X.env = (false, eval e X.env) :: starEach es X.env := by rfl) (hpl : (backTo pos (starEach es X.env)).any (·.1) = false := by rfl) :
    PE X (.Call (.Name x q) (e :: es) [] pos) (fun σ H Q => t σ H fun vs H1 => sp p vs H1 Q (E σ)) := by
  refine ⟨fun pins s σ H Q I h => wpAny_Call_Name_kw (ld_glob I hg hm ?_ hdb)⟩
  refine PySem.W.callWith_K (h₀ := X.base) I.ok.mod.kin hk ?_ he hpl
  exact thn (ha.run pos pins s σ H _ I h) fun us s1 ⟨vs, H1, I1, r, a⟩ => ⟨I1.kIn, run_fnHP F hr hot inp hb (hx σ) I1 r a⟩
end
end
/-! ### such a def called within an except suite, with the exception -/
section
open PySem PySem.Spec PyProof.Rows L2 HotX L2H
theorem passH {X : Cx} {σ : L2.St} : PassesAt CX0 X σ E0 := fun _ _ _ _ _ _ h => h.elim
variable {X : Cx} {CX : CXT} {k : Nat} {f : Addr} {fd : FuncData} {ps : List Str} {sp : SpP} {E : L2.St → XK} {x : Str} {q pos : Pos} {e : Expr} {es : List Expr} {t : TA} {a : Addr} {oe : Obj} {cls : Value} {d : Option Addr}
theorem pe_callHZ (F : FnHP X.prog X.w X.K X.mg X.base CX k f fd ps sp) (hr : RoomH k X.A) (hh : X.A.handled = some (.ref a)) (inp : (a, oe) ∈ X.pn) (hz : L2N.Zn cls d oe) (hf : ∃ vs, oe.data = .fields vs) (hg : Gl X x) (hm : X.mg x = some (.ref f)) (hk : PySem.W.keepIn X.K (.ref f) = true) (hb : L2.Binds X.K fd ps []) (hx : ∀ σ, PassesAt CX X σ (E σ))
    (ha : PA X (e :: es) t) (hdb : (x == ("__debug__" : Str)) = false := by decide) (he : starEach (e :: es) X.env = (false, eval e X.env) :: starEach es X.env := by rfl) (hpl : (backTo pos (starEach es X.env)).any (·.1) = false := by rfl) :
    PE X (.Call (.Name x q) (e :: es) [] pos) (fun σ H Q => t σ H fun vs H1 => ∀ p : Addr × Obj, p.1 = a → L2.Zc cls d p.2 → (∃ vs, p.2.data = .fields vs) → sp p vs H1 Q (E σ)) := by
  refine ⟨fun pins s σ H Q I h => wpAny_Call_Name_kw (ld_glob I hg hm ?_ hdb)⟩
  refine PySem.W.callWith_K (h₀ := X.base) I.ok.mod.kin hk ?_ he hpl
  have hot : Hot1 X.A (a, oe) := by
    obtain ⟨vs, hv⟩ := hf
    exact ⟨hh, vs, hv, hz.2.2 vs hv⟩
  exact thn (ha.run pos pins s σ H _ I h) fun us s1 ⟨vs, H1, I1, r, c⟩ => ⟨I1.kIn, run_fnHP F hr hot inp hb (hx σ) I1 r (c (a, oe) rfl hz.zc hf)⟩
end
/-! ### isinstance of the exception that is handled -/
section
open PySem PySem.Spec PyProof.Rows L2
/-- of which class the handled exception is -/
def PExc (p : Addr × Obj) (D : Addr) (H : Hp) : Prop := ∃ dd : Option Addr, Zc (.ref D) dd p.2 ∧ (∃ vs, p.2.data = .fields vs) ∧ ∀ d, dd = some d → ∃ fs, H d = some (.xd fs)
theorem PExc.same {p : Addr × Obj} {D : Addr} {H H' : Hp} (h : PExc p D H) (s : Same H H') : PExc p D H' := by
  obtain ⟨dd, h1, h2, h3⟩ := h
  exact ⟨dd, h1, h2, fun d e => (h3 d e).imp fun fs k => s _ _ k⟩
theorem PExc.inst {X : Cx} {pins : List (Addr × Obj)} {σ : L2.St} {H : Hp} {s : Shared} {p : Addr × Obj} {D : Addr} (h : PExc p D H) (I : Inv X pins σ H s) (hp : p ∈ X.pn) : ∃ od, PySem.W.InstAt s.heap p.1 p.2 D od := by
  obtain ⟨dd, ⟨h1, h2⟩, ⟨vs, hv⟩, h3⟩ := h
  have get := (I.pin p (List.mem_append_left _ hp)).1
  have nc : PySem.W.notCls p.2 = true := by unfold PySem.W.notCls; rw [hv]
  cases dd with
  | none => exact ⟨none, get, h1, nc, by rw [h2]; trivial⟩
  | some d =>
    obtain ⟨fs, hd⟩ := h3 d rfl
    obtain ⟨mA, hns, _⟩ := (show ObjOk X.prog X.w H s.heap d (.xd fs) from I.hok d _ hd)
    obtain ⟨o, ho, _⟩ := lookIn_ns hns
    exact ⟨some o, get, h1, nc, by rw [h2]; exact ho⟩
theorem call_isP {X : Cx} {p : Addr × Obj} (hp : p ∈ X.pn) : CallR X (.builtin "isinstance") (fun xs H Q => ∃ (D : Addr) (c : V) (cv : Value) (b : Bool), xs = [.ref p.1, c] ∧ PExc p D H ∧ ExK X.K D ∧ (∀ u, RelV c u → u = cv) ∧ PySem.W.kitOne X.K (.ref D) cv = some b ∧ Q (.bl b) H) := by
  intro pins s σ H xs us Q I r h
  obtain ⟨D, c, cv, b, rfl, hx, T, hcv, e, q⟩ := h
  cases r with
  | cons ra rest =>
    cases rest with
    | cons rb none_ =>
      cases none_
      cases ra
      cases hcv _ rb
      obtain ⟨od, J⟩ := hx.inst I hp
      exact PySem.W.kia_one T.kit I.kIn ⟨od, J⟩ e (fun z => nomatch z) fun tk => ⟨.bl b, H, I.kept (t' := tk) fun _ _ z => z, rfl, q⟩
end
/-! ### sum of a list, where an exception is handled -/
section
open PySem PySem.Spec PyProof.Rows L2 HotX L2H
theorem walks_listX {prog : Program} {w : World} {A : Around} {x1 : Addr} {o1 : Obj} {v1 : Array Value} (hd : A.handled = some (.ref x1)) (dv : o1.data = .fields v1) (nx : v1[2]? = some .none) (it l : Addr) (nl : l ≠ it) (n1 : x1 ≠ it) (items : Array Value) :
    Walks prog w A it [it, l, x1] [it] items.size (fun i v => items[i]? = some v) (fun i h => h.IsListIter it l i ∧ h.IsList l items ∧ h.get? x1 = some o1) where
  sub := fun b hb => by rw [List.mem_singleton.mp hb]; exact List.mem_cons_self
  frame := fun _ _ _ st k => ⟨st.1.at fun o e => k it (by simp) o e, st.2.1.at fun o e => k l (by simp) o e, k x1 (by simp) _ st.2.2⟩
  item := fun i z Q E lt st q => by
    have at_ : items[i]? = some items[i] := Array.getElem?_eq_getElem lt
    refine wpAny_pyNext_list_item st.1 st.2.1 at_ fun k st2 same => ?_
    exact q _ k z.toks at_ ⟨st2, st.2.1.extBut same.extBut nl, (same.2 x1 n1).trans st.2.2⟩ fun b o out e => (same.2 b fun c => out (List.mem_singleton.mpr c)).trans e
  done := fun z Q E st q => pyNext_list_end_hot ⟨hd, o1, v1, st.2.2, dv, nx⟩ st.1 st.2.1 (by simp) n1 fun k same => q k z.toks fun b o out e => same b o (fun c => out (List.mem_singleton.mpr c)) e
  self := fun _ _ _ _ st q => wpAny_pyIter_listiter st.1 q
theorem cr_sumX {X : Cx} (hot : HotC X) : CallR X (.builtin "sum") (rSum X.K) := by
  intro pins s σ H vs us Q I r h
  obtain ⟨a, ns, rfl, hs, q⟩ := h
  obtain ⟨its, rv, hl, _⟩ := I.list hs
  rw [Vals.ref1 r]
  obtain ⟨p, ⟨hd, v1, dv, nx⟩, inp⟩ := hot
  have g1 := (I.pin p (List.mem_append_left _ inp)).1
  have hi := rv.ints
  obtain ⟨xs, e⟩ := hi.allInts.items
  have hn : numsOf (intItems xs).toList = ns := by rw [← e]; exact hi.numsOf
  rw [nums_intItems] at hn
  have li := hl.isList
  rw [e] at li
  refine call_sum_walkG (iter_intList li fun z2 ez st hfp nl => ?_)
  subst ez
  have lt1 := Heap.lt_size g1
  refine ⟨_, [s.heap.objs.size, a, p.1], _, _, _, _, numAt xs, rfl, walks_listX (A := X.A.in1) hd dv nx _ a nl (Nat.ne_of_lt lt1) (intItems xs), ⟨st.1, st.2, Heap.get?_push_of_some _ g1⟩, fun b hb => ?_, (fun _ _ => intItems_at), fun k tk t' same => ?_⟩
  · simp only [List.mem_cons, List.not_mem_nil, or_false] at hb
    rcases hb with rfl | rfl | rfl
    · exact hfp _ (by simp)
    · exact hfp _ (by simp)
    · show _ < (s.heap.push _).objs.size
      rw [Heap.size_push]
      exact Nat.lt_succ_of_lt lt1
  · have kept : ∀ b o, s.heap.get? b = some o → k.get? b = some o := fun b o eb => same b o (fun c => by
      rw [List.mem_singleton.mp c] at eb
      exact absurd (Heap.lt_size eb) (Nat.lt_irrefl _)) (Heap.get?_push_of_some _ eb)
    have sm : preSum (numAt xs) (intItems xs).size = ns.sum := by
      have : (intItems xs).size = xs.size := by simp [intItems]
      rw [this, preSum_eq, List.take_of_length_le (by simp), hn]
    rw [sm]
    exact ⟨.int _, H, I.kept kept, ⟨_, rfl⟩, q⟩
end
/-! ### the classes of errors, asked all at once -/
def kitAll (K : PySem.W.Frag) (l : List Addr) : Bool := (List.range l.length).all fun i => (List.range l.length).all fun j => match l[i]?, l[j]? with
  | some c, some d => decide (PySem.W.kitOne K (.ref c) (.ref d) = some (decide (i = j)))
  | _, _ => true
def kitBase (K : PySem.W.Frag) (b : Addr) (l : List Addr) : Bool := l.all fun c => decide (PySem.W.kitOne K (.ref c) (.ref b) = some true) && decide (PySem.W.kitOne K (.ref c) (.type "ValueError") = some true)
def exkAll (K : PySem.W.Frag) (l : List Addr) : Bool := l.all fun c => decide (PySem.W.findIn K (.ref c) "__class__" = some (some (.builtin "object.__class__"))) && decide (PySem.W.mroIn K c (.type "object") = some true)
theorem kitAll_at {K : PySem.W.Frag} {l : List Addr} (h : kitAll K l = true) {i j : Nat} {c d : Addr} (hi : l[i]? = some c) (hj : l[j]? = some d) : PySem.W.kitOne K (.ref c) (.ref d) = some (decide (i = j)) := by
  have h1 := List.all_eq_true.mp h i (List.mem_range.mpr (List.getElem?_eq_some_iff.mp hi).1)
  have h2 := List.all_eq_true.mp h1 j (List.mem_range.mpr (List.getElem?_eq_some_iff.mp hj).1)
  rw [hi, hj] at h2
  exact of_decide_eq_true h2
def gid {α : Type} (l : List α) : List α := l
def gsw {α : Type} : List α → List α
  | [x, y] => [y, x]
  | l => l
theorem gid_r {zs : List V} {ws : List Value} (h : Vals zs ws) : Vals (gid zs) (gid ws) := h
theorem gsw_r : ∀ {zs : List V} {ws : List Value}, Vals zs ws → Vals (gsw zs) (gsw ws)
  | _, _, .nil => .nil
  | _, _, .cons a .nil => .cons a .nil
  | _, _, .cons a (.cons b .nil) => .cons b (.cons a .nil)
  | _, _, .cons a (.cons b (.cons c r)) => .cons a (.cons b (.cons c r))
abbrev s_Mode_is_mode : Stmt := inClass (top 15) 9
theorem sc_Mode_is_mode : FnScope ["thing"] ["thing"] (defScope s_Mode_is_mode) := ⟨rfl, rfl, rfl, by decide +kernel, rfl, by decide +kernel, by decide +kernel⟩
abbrev s_is_word : Stmt := top 14
theorem sc_is_word : FnScope ["thing", "letter"] ["thing"] (defScope s_is_word) := ⟨rfl, rfl, rfl, by decide +kernel, rfl, by decide +kernel, by decide +kernel⟩
abbrev s_MissingU_initU : Stmt := inClass (top 8) 0
abbrev s_PresentU_initU : Stmt := inClass (top 9) 0
abbrev s_DoomedU_initU : Stmt := inClass (top 7) 0
abbrev s_RefusedU_initU : Stmt := inClass (top 10) 0
abbrev s_NoBlockU_initU : Stmt := inClass (top 5) 0
abbrev s_WaitsU_initU : Stmt := inClass (top 11) 0
abbrev s_NoRecordU_initU : Stmt := inClass (top 6) 0
abbrev s_BadWordU_initU : Stmt := inClass (top 3) 0
abbrev s_BadModeU_initU : Stmt := inClass (top 4) 0
abbrev s_FailedU_initU : Stmt := inClass (top 12) 0
abbrev s_WriteU_initU : Stmt := inClass (top 17) 0
theorem sc_WriteU_initU : FnScope ["self", "record", "value", "fate", "holder", "level"] ["self", "record", "value", "fate", "holder", "level"] (defScope s_WriteU_initU) := ⟨rfl, rfl, rfl, by decide +kernel, rfl, by decide +kernel, by decide +kernel⟩
abbrev s_TransactionU_initU : Stmt := inClass (top 18) 0
theorem sc_TransactionU_initU : FnScope ["self", "number"] ["self", "number"] (defScope s_TransactionU_initU) := ⟨rfl, rfl, rfl, by decide +kernel, rfl, by decide +kernel, by decide +kernel⟩
abbrev s_DatabaseU_initU : Stmt := inClass (top 19) 0
theorem sc_DatabaseU_initU : FnScope ["self"] ["self"] (defScope s_DatabaseU_initU) := ⟨rfl, rfl, rfl, by decide +kernel, rfl, by decide +kernel, by decide +kernel⟩
abbrev s_Database_begin : Stmt := inClass (top 19) 9
theorem sc_Database_begin : FnScope ["self"] ["self"] (defScope s_Database_begin) := ⟨rfl, rfl, rfl, by decide +kernel, rfl, by decide +kernel, by decide +kernel⟩
abbrev s_Database_enter_alone : Stmt := inClass (top 19) 7
theorem sc_Database_enter_alone : FnScope ["self", "mode"] ["self", "mode"] (defScope s_Database_enter_alone) := ⟨rfl, rfl, rfl, by decide +kernel, rfl, by decide +kernel, by decide +kernel⟩
abbrev s_Database_enter_inside : Stmt := inClass (top 19) 8
theorem sc_Database_enter_inside : FnScope ["self", "mode", "present"] ["self", "mode", "present"] (defScope s_Database_enter_inside) := ⟨rfl, rfl, rfl, by decide +kernel, rfl, by decide +kernel, by decide +kernel⟩
abbrev s_Database_enter : Stmt := inClass (top 19) 6
theorem sc_Database_enter : FnScope ["self", "mode"] ["self", "mode"] (defScope s_Database_enter) := ⟨rfl, rfl, rfl, by decide +kernel, rfl, by decide +kernel, by decide +kernel⟩
abbrev s_Database_doom : Stmt := inClass (top 19) 20
theorem sc_Database_doom : FnScope ["self", "first", "present"] ["self", "first"] (defScope s_Database_doom) := ⟨rfl, rfl, rfl, by decide +kernel, rfl, by decide +kernel, by decide +kernel⟩
abbrev s_Database_end_level : Stmt := inClass (top 19) 11
theorem sc_Database_end_level : FnScope ["self", "error", "present", "reason", "top", "row"] ["self", "error"] (defScope s_Database_end_level) := ⟨rfl, rfl, rfl, by decide +kernel, rfl, by decide +kernel, by decide +kernel⟩
abbrev s_Database_end_transaction : Stmt := inClass (top 19) 12
theorem sc_Database_end_transaction : FnScope ["self", "error", "commits", "present", "reason", "fate", "row"] ["self", "error", "commits"] (defScope s_Database_end_transaction) := ⟨rfl, rfl, rfl, by decide +kernel, rfl, by decide +kernel, by decide +kernel⟩
abbrev s_Database_leave : Stmt := inClass (top 19) 10
theorem sc_Database_leave : FnScope ["self", "error", "commits", "sort"] ["self", "error", "commits"] (defScope s_Database_leave) := ⟨rfl, rfl, rfl, by decide +kernel, rfl, by decide +kernel, by decide +kernel⟩
abbrev s_Database_held_by : Stmt := inClass (top 19) 21
theorem sc_Database_held_by : FnScope ["self", "numbers", "row"] ["self", "numbers"] (defScope s_Database_held_by) := ⟨rfl, rfl, rfl, by decide +kernel, rfl, by decide +kernel, by decide +kernel⟩
abbrev s_Database_held_records : Stmt := inClass (top 19) 22
theorem sc_Database_held_records : FnScope ["self", "one"] ["self"] (defScope s_Database_held_records) := ⟨rfl, rfl, rfl, by decide +kernel, rfl, by decide +kernel, by decide +kernel⟩
abbrev s_Database_outer_records : Stmt := inClass (top 19) 23
theorem sc_Database_outer_records : FnScope ["self", "one"] ["self"] (defScope s_Database_outer_records) := ⟨rfl, rfl, rfl, by decide +kernel, rfl, by decide +kernel, by decide +kernel⟩
abbrev s_Database_would_wait : Stmt := inClass (top 19) 13
theorem sc_Database_would_wait : FnScope ["self", "record"] ["self", "record"] (defScope s_Database_would_wait) := ⟨rfl, rfl, rfl, by decide +kernel, rfl, by decide +kernel, by decide +kernel⟩
abbrev s_Database_write : Stmt := inClass (top 19) 14
theorem sc_Database_write : FnScope ["self", "record", "value", "present"] ["self", "record", "value"] (defScope s_Database_write) := ⟨rfl, rfl, rfl, by decide +kernel, rfl, by decide +kernel, by decide +kernel⟩
abbrev s_DatabaseU_setitemU : Stmt := inClass (top 19) 15
theorem sc_DatabaseU_setitemU : FnScope ["self", "record", "value"] ["self", "record", "value"] (defScope s_DatabaseU_setitemU) := ⟨rfl, rfl, rfl, by decide +kernel, rfl, by decide +kernel, by decide +kernel⟩
abbrev s_Database_sees : Stmt := inClass (top 19) 16
theorem sc_Database_sees : FnScope ["self", "row"] ["self", "row"] (defScope s_Database_sees) := ⟨rfl, rfl, rfl, by decide +kernel, rfl, by decide +kernel, by decide +kernel⟩
abbrev s_DatabaseU_getitemU : Stmt := inClass (top 19) 17
theorem sc_DatabaseU_getitemU : FnScope ["self", "record", "found", "row"] ["self", "record"] (defScope s_DatabaseU_getitemU) := ⟨rfl, rfl, rfl, by decide +kernel, rfl, by decide +kernel, by decide +kernel⟩
abbrev s_DatabaseU_containsU : Stmt := inClass (top 19) 18
theorem sc_DatabaseU_containsU : FnScope ["self", "record", "row"] ["self", "record"] (defScope s_DatabaseU_containsU) := ⟨rfl, rfl, rfl, by decide +kernel, rfl, by decide +kernel, by decide +kernel⟩
abbrev s_Database_kept_values : Stmt := inClass (top 19) 24
theorem sc_Database_kept_values : FnScope ["self", "last", "row", "record"] ["self"] (defScope s_Database_kept_values) := ⟨rfl, rfl, rfl, by decide +kernel, rfl, by decide +kernel, by decide +kernel⟩
abbrev s_Database_fates : Stmt := inClass (top 19) 25
theorem sc_Database_fates : GScope ["self", "row"] ["self"] (defScope s_Database_fates) := ⟨rfl, rfl, rfl, by decide +kernel, rfl, by decide +kernel, by decide +kernel⟩
abbrev s_Database_is_open : Stmt := inClass (top 19) 1
theorem sc_Database_is_open : FnScope ["self"] ["self"] (defScope s_Database_is_open) := ⟨rfl, rfl, rfl, by decide +kernel, rfl, by decide +kernel, by decide +kernel⟩
abbrev s_Database_is_doomed : Stmt := inClass (top 19) 2
theorem sc_Database_is_doomed : FnScope ["self"] ["self"] (defScope s_Database_is_doomed) := ⟨rfl, rfl, rfl, by decide +kernel, rfl, by decide +kernel, by decide +kernel⟩
abbrev s_Database_reason : Stmt := inClass (top 19) 3
theorem sc_Database_reason : FnScope ["self"] ["self"] (defScope s_Database_reason) := ⟨rfl, rfl, rfl, by decide +kernel, rfl, by decide +kernel, by decide +kernel⟩
abbrev s_Database_levels : Stmt := inClass (top 19) 4
theorem sc_Database_levels : FnScope ["self"] ["self"] (defScope s_Database_levels) := ⟨rfl, rfl, rfl, by decide +kernel, rfl, by decide +kernel, by decide +kernel⟩
abbrev s_Database_depth : Stmt := inClass (top 19) 5
theorem sc_Database_depth : FnScope ["self"] ["self"] (defScope s_Database_depth) := ⟨rfl, rfl, rfl, by decide +kernel, rfl, by decide +kernel, by decide +kernel⟩
abbrev s_law_pool : Stmt := top 21
theorem sc_law_pool : FnScope ["_law_script", "_law_at", "_law_cell", "_law_size", "_law_seed"] ["_law_script", "_law_at"] (defScope s_law_pool) := ⟨rfl, rfl, rfl, by decide +kernel, rfl, by decide +kernel, by decide +kernel⟩
abbrev s_law_draw : Stmt := top 22
theorem sc_law_draw : FnScope ["_law_pool_here", "_law_many", "_law_digit", "_law_count", "_law_mixed"] ["_law_pool_here", "_law_many"] (defScope s_law_draw) := ⟨rfl, rfl, rfl, by decide +kernel, rfl, by decide +kernel, by decide +kernel⟩
abbrev s_law_word : Stmt := top 23
theorem sc_law_word : FnScope ["_law_pool_here", "_law_letters", "_law_k"] ["_law_pool_here"] (defScope s_law_word) := ⟨rfl, rfl, rfl, by decide +kernel, rfl, by decide +kernel, by decide +kernel⟩
abbrev s_law_seen : Stmt := top 24
theorem sc_law_seen : FnScope ["_law_db", "_law_props"] ["_law_db"] (defScope s_law_seen) := ⟨rfl, rfl, rfl, by decide +kernel, rfl, by decide +kernel, by decide +kernel⟩
abbrev s_law_single : Stmt := top 25
theorem sc_law_single : FnScope ["_law_e", "_law_found", "_law_one"] ["_law_e"] (defScope s_law_single) := ⟨rfl, rfl, rfl, by decide +kernel, rfl, by decide +kernel, by decide +kernel⟩
abbrev s_law_enter : Stmt := top 26
theorem sc_law_enter : FnScope ["_law_db", "_law_mode", "_law_e"] ["_law_db", "_law_mode"] (defScope s_law_enter) := ⟨rfl, rfl, rfl, by decide +kernel, rfl, by decide +kernel, by decide +kernel⟩
abbrev s_law_other : Stmt := top 27
theorem sc_law_other : FnScope ["_law_db", "_law_sort", "_law_thing", "_law_e"] ["_law_db", "_law_sort", "_law_thing"] (defScope s_law_other) := ⟨rfl, rfl, rfl, by decide +kernel, rfl, by decide +kernel, by decide +kernel⟩
abbrev s_law_built : Stmt := top 28
theorem sc_law_built : FnScope ["_law_pool_here", "_law_modes", "_law_db", "_law_used", "_law_turn", "_law_more", "_law_word_here"] ["_law_pool_here"] (defScope s_law_built) := ⟨rfl, rfl, rfl, by decide +kernel, rfl, by decide +kernel, by decide +kernel⟩
abbrev s_law_wrong : Stmt := top 29
theorem sc_law_wrong : FnScope ["_law_pool_here", "_law_text", "_law_at", "_law_odd"] ["_law_pool_here"] (defScope s_law_wrong) := ⟨rfl, rfl, rfl, by decide +kernel, rfl, by decide +kernel, by decide +kernel⟩
abbrev s_law : Stmt := top 30
theorem sc_law : FnScope ["_law_script", "_law_at", "_law_pool_here", "_law_db", "_law_used", "_law_before", "_law_wrong_here", "_law_dues", "_law_sort", "_law_fresh"] ["_law_script"] (defScope s_law) := ⟨rfl, rfl, rfl, by decide +kernel, rfl, by decide +kernel, by decide +kernel⟩
abbrev ef_Missing : List (Str × Sum Nat Str) := [("word", .inr "missing"), ("mode", .inl 0)]
theorem ec_Missing {K : PySem.W.Frag} {C fI : Addr} {nm qn : Str} {N : Addr} {bs bm : List Value} {sn : List Str} {sub : List Value} {ab : Bool} {col : Option Bool} {dd : Option Addr} {k0 k1 k2 k3 k5 : Option Value}
    {oc : Value} {od : Option Addr} {doc pm : Value} {an : Option Addr} {cda cc : Addr} {ct : Value} {osl : Array (Option Value)} {ccl : Value} {cdd : Option Addr} {vs : Array Value} {ccs : Array (Option Value)} {tf : Tok} {cl : Value} {cld : Option Addr} {csl : Array (Option Value)}
    (h1 : K.lookup C = some (excClassObj nm qn C N bs bm true sn sub ab col dd k0 k1 k2 k3 k5 "ValueError.__new__")) (h2 : PySem.HandSPX.refsVE bm = true) (h3 : PySem.W.findIn K (.ref C) "__setattr__" = some (some (.builtin "object.__setattr__")))
    (h4 : PySem.W.findIn K (.ref C) "__getattribute__" = some (some (.builtin "BaseException.__getattribute__"))) (h5 : PySem.W.findIn K (.ref C) "__getattr__" = some none) (h6 : PySem.W.findIn K (.ref C) "__init__" = some (some (.ref fI)))
    (h7 : PySem.W.typeIn K (.ref fI) = some (.type "function")) (h8 : PySem.W.keepIn K (.ref C) = true) (h9 : PySem.W.subIn K (.ref C) (.type "BaseException") = some true) (h10 : PySem.W.subIn K (.ref C) (.type "ValueError") = some true)
    (h11 : PySem.W.typeIn K (.ref C) = some (.type "type")) (h12 : PySem.W.hasDictIn K C = true) (h13 : PySem.W.ks_superIn K C C "__init__" = some (some (.builtin "ValueError.__init__"))) (h14 : PySem.W.mroIn K C (.ref C) = some true) (h15 : PySem.W.exmOne K (.ref C) (.ref C) = some true)
    (h16 : PySem.W.nsIn K cStatics "thirdparty.any" = some none) (h17 : K.lookup fI = some ⟨oc, od, .func (PySem.W.ksFn "__init__" "Missing.__init__" (defArgs s_MissingU_initU) (defBody s_MissingU_initU) (defScope s_MissingU_initU) .none .none doc pm an (.ref cda) ct cc), osl⟩) (h18 : PySem.W.codeIn K (.ref cda) "Missing.__init__" = true)
    (h19 : K.lookup cda = some ⟨ccl, cdd, .fields vs, ccs⟩) (h20 : vs[2]? = some (.str P.main.file tf)) (h21 : K.lookup cc = some ⟨cl, cld, .cell (some (.ref C)), csl⟩) (nf0 : PySem.W.findIn K (.ref C) "word" = some none) (nf1 : PySem.W.findIn K (.ref C) "mode" = some none) : ErrC P K C fI s_MissingU_initU "Missing.__init__" ["mode"] ef_Missing := by
  refine ⟨⟨nm, qn, N, bs, bm, sn, sub, ab, col, dd, k0, k1, k2, k3, k5, h1, h2⟩, h3, h4, h5, ?_, h6, h7, h8, h9, h10, h11, h12, h13, h14, h15, h16, ⟨oc, od, doc, pm, an, cda, cc, ct, osl, ccl, cdd, vs, ccs, tf, cl, cld, csl, h17, h18, h19, h20, h21⟩, ⟨_, rfl, rfl⟩, (fun _ _ _ _ _ _ us hl => match us, hl with | [_, _], _ => rfl),
    ⟨_, _, _, _, _, _, _, _, _, rfl, (.con (.par (i := 0) rfl .nil)), fun L cda cc => ⟨_, rfl⟩⟩, rfl, rfl, rfl, by decide +kernel, by decide +kernel, rfl, rfl, by decide +kernel, by decide +kernel⟩
  intro p hp
  rcases List.mem_cons.mp hp with rfl | hp
  · exact nf0
  rcases List.mem_cons.mp hp with rfl | hp
  · exact nf1
  · exact absurd hp (by simp)
abbrev ef_Present : List (Str × Sum Nat Str) := [("word", .inr "present"), ("mode", .inl 0)]
theorem ec_Present {K : PySem.W.Frag} {C fI : Addr} {nm qn : Str} {N : Addr} {bs bm : List Value} {sn : List Str} {sub : List Value} {ab : Bool} {col : Option Bool} {dd : Option Addr} {k0 k1 k2 k3 k5 : Option Value}
    {oc : Value} {od : Option Addr} {doc pm : Value} {an : Option Addr} {cda cc : Addr} {ct : Value} {osl : Array (Option Value)} {ccl : Value} {cdd : Option Addr} {vs : Array Value} {ccs : Array (Option Value)} {tf : Tok} {cl : Value} {cld : Option Addr} {csl : Array (Option Value)}
    (h1 : K.lookup C = some (excClassObj nm qn C N bs bm true sn sub ab col dd k0 k1 k2 k3 k5 "ValueError.__new__")) (h2 : PySem.HandSPX.refsVE bm = true) (h3 : PySem.W.findIn K (.ref C) "__setattr__" = some (some (.builtin "object.__setattr__")))
    (h4 : PySem.W.findIn K (.ref C) "__getattribute__" = some (some (.builtin "BaseException.__getattribute__"))) (h5 : PySem.W.findIn K (.ref C) "__getattr__" = some none) (h6 : PySem.W.findIn K (.ref C) "__init__" = some (some (.ref fI)))
    (h7 : PySem.W.typeIn K (.ref fI) = some (.type "function")) (h8 : PySem.W.keepIn K (.ref C) = true) (h9 : PySem.W.subIn K (.ref C) (.type "BaseException") = some true) (h10 : PySem.W.subIn K (.ref C) (.type "ValueError") = some true)
    (h11 : PySem.W.typeIn K (.ref C) = some (.type "type")) (h12 : PySem.W.hasDictIn K C = true) (h13 : PySem.W.ks_superIn K C C "__init__" = some (some (.builtin "ValueError.__init__"))) (h14 : PySem.W.mroIn K C (.ref C) = some true) (h15 : PySem.W.exmOne K (.ref C) (.ref C) = some true)
    (h16 : PySem.W.nsIn K cStatics "thirdparty.any" = some none) (h17 : K.lookup fI = some ⟨oc, od, .func (PySem.W.ksFn "__init__" "Present.__init__" (defArgs s_PresentU_initU) (defBody s_PresentU_initU) (defScope s_PresentU_initU) .none .none doc pm an (.ref cda) ct cc), osl⟩) (h18 : PySem.W.codeIn K (.ref cda) "Present.__init__" = true)
    (h19 : K.lookup cda = some ⟨ccl, cdd, .fields vs, ccs⟩) (h20 : vs[2]? = some (.str P.main.file tf)) (h21 : K.lookup cc = some ⟨cl, cld, .cell (some (.ref C)), csl⟩) (nf0 : PySem.W.findIn K (.ref C) "word" = some none) (nf1 : PySem.W.findIn K (.ref C) "mode" = some none) : ErrC P K C fI s_PresentU_initU "Present.__init__" ["mode"] ef_Present := by
  refine ⟨⟨nm, qn, N, bs, bm, sn, sub, ab, col, dd, k0, k1, k2, k3, k5, h1, h2⟩, h3, h4, h5, ?_, h6, h7, h8, h9, h10, h11, h12, h13, h14, h15, h16, ⟨oc, od, doc, pm, an, cda, cc, ct, osl, ccl, cdd, vs, ccs, tf, cl, cld, csl, h17, h18, h19, h20, h21⟩, ⟨_, rfl, rfl⟩, (fun _ _ _ _ _ _ us hl => match us, hl with | [_, _], _ => rfl),
    ⟨_, _, _, _, _, _, _, _, _, rfl, (.con (.par (i := 0) rfl .nil)), fun L cda cc => ⟨_, rfl⟩⟩, rfl, rfl, rfl, by decide +kernel, by decide +kernel, rfl, rfl, by decide +kernel, by decide +kernel⟩
  intro p hp
  rcases List.mem_cons.mp hp with rfl | hp
  · exact nf0
  rcases List.mem_cons.mp hp with rfl | hp
  · exact nf1
  · exact absurd hp (by simp)
abbrev ef_Doomed : List (Str × Sum Nat Str) := [("word", .inr "doomed"), ("first", .inl 0)]
theorem ec_Doomed {K : PySem.W.Frag} {C fI : Addr} {nm qn : Str} {N : Addr} {bs bm : List Value} {sn : List Str} {sub : List Value} {ab : Bool} {col : Option Bool} {dd : Option Addr} {k0 k1 k2 k3 k5 : Option Value}
    {oc : Value} {od : Option Addr} {doc pm : Value} {an : Option Addr} {cda cc : Addr} {ct : Value} {osl : Array (Option Value)} {ccl : Value} {cdd : Option Addr} {vs : Array Value} {ccs : Array (Option Value)} {tf : Tok} {cl : Value} {cld : Option Addr} {csl : Array (Option Value)}
    (h1 : K.lookup C = some (excClassObj nm qn C N bs bm true sn sub ab col dd k0 k1 k2 k3 k5 "ValueError.__new__")) (h2 : PySem.HandSPX.refsVE bm = true) (h3 : PySem.W.findIn K (.ref C) "__setattr__" = some (some (.builtin "object.__setattr__")))
    (h4 : PySem.W.findIn K (.ref C) "__getattribute__" = some (some (.builtin "BaseException.__getattribute__"))) (h5 : PySem.W.findIn K (.ref C) "__getattr__" = some none) (h6 : PySem.W.findIn K (.ref C) "__init__" = some (some (.ref fI)))
    (h7 : PySem.W.typeIn K (.ref fI) = some (.type "function")) (h8 : PySem.W.keepIn K (.ref C) = true) (h9 : PySem.W.subIn K (.ref C) (.type "BaseException") = some true) (h10 : PySem.W.subIn K (.ref C) (.type "ValueError") = some true)
    (h11 : PySem.W.typeIn K (.ref C) = some (.type "type")) (h12 : PySem.W.hasDictIn K C = true) (h13 : PySem.W.ks_superIn K C C "__init__" = some (some (.builtin "ValueError.__init__"))) (h14 : PySem.W.mroIn K C (.ref C) = some true) (h15 : PySem.W.exmOne K (.ref C) (.ref C) = some true)
    (h16 : PySem.W.nsIn K cStatics "thirdparty.any" = some none) (h17 : K.lookup fI = some ⟨oc, od, .func (PySem.W.ksFn "__init__" "Doomed.__init__" (defArgs s_DoomedU_initU) (defBody s_DoomedU_initU) (defScope s_DoomedU_initU) .none .none doc pm an (.ref cda) ct cc), osl⟩) (h18 : PySem.W.codeIn K (.ref cda) "Doomed.__init__" = true)
    (h19 : K.lookup cda = some ⟨ccl, cdd, .fields vs, ccs⟩) (h20 : vs[2]? = some (.str P.main.file tf)) (h21 : K.lookup cc = some ⟨cl, cld, .cell (some (.ref C)), csl⟩) (nf0 : PySem.W.findIn K (.ref C) "word" = some none) (nf1 : PySem.W.findIn K (.ref C) "first" = some none) : ErrC P K C fI s_DoomedU_initU "Doomed.__init__" ["first"] ef_Doomed := by
  refine ⟨⟨nm, qn, N, bs, bm, sn, sub, ab, col, dd, k0, k1, k2, k3, k5, h1, h2⟩, h3, h4, h5, ?_, h6, h7, h8, h9, h10, h11, h12, h13, h14, h15, h16, ⟨oc, od, doc, pm, an, cda, cc, ct, osl, ccl, cdd, vs, ccs, tf, cl, cld, csl, h17, h18, h19, h20, h21⟩, ⟨_, rfl, rfl⟩, (fun _ _ _ _ _ _ us hl => match us, hl with | [_, _], _ => rfl),
    ⟨_, _, _, _, _, _, _, _, _, rfl, (.con (.par (i := 0) rfl .nil)), fun L cda cc => ⟨_, rfl⟩⟩, rfl, rfl, rfl, by decide +kernel, by decide +kernel, rfl, rfl, by decide +kernel, by decide +kernel⟩
  intro p hp
  rcases List.mem_cons.mp hp with rfl | hp
  · exact nf0
  rcases List.mem_cons.mp hp with rfl | hp
  · exact nf1
  · exact absurd hp (by simp)
abbrev ef_Refused : List (Str × Sum Nat Str) := [("word", .inr "refused")]
theorem ec_Refused {K : PySem.W.Frag} {C fI : Addr} {nm qn : Str} {N : Addr} {bs bm : List Value} {sn : List Str} {sub : List Value} {ab : Bool} {col : Option Bool} {dd : Option Addr} {k0 k1 k2 k3 k5 : Option Value}
    {oc : Value} {od : Option Addr} {doc pm : Value} {an : Option Addr} {cda cc : Addr} {ct : Value} {osl : Array (Option Value)} {ccl : Value} {cdd : Option Addr} {vs : Array Value} {ccs : Array (Option Value)} {tf : Tok} {cl : Value} {cld : Option Addr} {csl : Array (Option Value)}
    (h1 : K.lookup C = some (excClassObj nm qn C N bs bm true sn sub ab col dd k0 k1 k2 k3 k5 "ValueError.__new__")) (h2 : PySem.HandSPX.refsVE bm = true) (h3 : PySem.W.findIn K (.ref C) "__setattr__" = some (some (.builtin "object.__setattr__")))
    (h4 : PySem.W.findIn K (.ref C) "__getattribute__" = some (some (.builtin "BaseException.__getattribute__"))) (h5 : PySem.W.findIn K (.ref C) "__getattr__" = some none) (h6 : PySem.W.findIn K (.ref C) "__init__" = some (some (.ref fI)))
    (h7 : PySem.W.typeIn K (.ref fI) = some (.type "function")) (h8 : PySem.W.keepIn K (.ref C) = true) (h9 : PySem.W.subIn K (.ref C) (.type "BaseException") = some true) (h10 : PySem.W.subIn K (.ref C) (.type "ValueError") = some true)
    (h11 : PySem.W.typeIn K (.ref C) = some (.type "type")) (h12 : PySem.W.hasDictIn K C = true) (h13 : PySem.W.ks_superIn K C C "__init__" = some (some (.builtin "ValueError.__init__"))) (h14 : PySem.W.mroIn K C (.ref C) = some true) (h15 : PySem.W.exmOne K (.ref C) (.ref C) = some true)
    (h16 : PySem.W.nsIn K cStatics "thirdparty.any" = some none) (h17 : K.lookup fI = some ⟨oc, od, .func (PySem.W.ksFn "__init__" "Refused.__init__" (defArgs s_RefusedU_initU) (defBody s_RefusedU_initU) (defScope s_RefusedU_initU) .none .none doc pm an (.ref cda) ct cc), osl⟩) (h18 : PySem.W.codeIn K (.ref cda) "Refused.__init__" = true)
    (h19 : K.lookup cda = some ⟨ccl, cdd, .fields vs, ccs⟩) (h20 : vs[2]? = some (.str P.main.file tf)) (h21 : K.lookup cc = some ⟨cl, cld, .cell (some (.ref C)), csl⟩) (nf0 : PySem.W.findIn K (.ref C) "word" = some none) : ErrC P K C fI s_RefusedU_initU "Refused.__init__" [] ef_Refused := by
  refine ⟨⟨nm, qn, N, bs, bm, sn, sub, ab, col, dd, k0, k1, k2, k3, k5, h1, h2⟩, h3, h4, h5, ?_, h6, h7, h8, h9, h10, h11, h12, h13, h14, h15, h16, ⟨oc, od, doc, pm, an, cda, cc, ct, osl, ccl, cdd, vs, ccs, tf, cl, cld, csl, h17, h18, h19, h20, h21⟩, ⟨_, rfl, rfl⟩, (fun _ _ _ _ _ _ us hl => match us, hl with | [_], _ => rfl),
    ⟨_, _, _, _, _, _, _, _, _, rfl, (.con .nil), fun L cda cc => ⟨_, rfl⟩⟩, rfl, rfl, rfl, by decide +kernel, by decide +kernel, rfl, rfl, by decide +kernel, by decide +kernel⟩
  intro p hp
  rcases List.mem_cons.mp hp with rfl | hp
  · exact nf0
  · exact absurd hp (by simp)
abbrev ef_NoBlock : List (Str × Sum Nat Str) := []
theorem ec_NoBlock {K : PySem.W.Frag} {C fI : Addr} {nm qn : Str} {N : Addr} {bs bm : List Value} {sn : List Str} {sub : List Value} {ab : Bool} {col : Option Bool} {dd : Option Addr} {k0 k1 k2 k3 k5 : Option Value}
    {oc : Value} {od : Option Addr} {doc pm : Value} {an : Option Addr} {cda cc : Addr} {ct : Value} {osl : Array (Option Value)} {ccl : Value} {cdd : Option Addr} {vs : Array Value} {ccs : Array (Option Value)} {tf : Tok} {cl : Value} {cld : Option Addr} {csl : Array (Option Value)}
    (h1 : K.lookup C = some (excClassObj nm qn C N bs bm true sn sub ab col dd k0 k1 k2 k3 k5 "ValueError.__new__")) (h2 : PySem.HandSPX.refsVE bm = true) (h3 : PySem.W.findIn K (.ref C) "__setattr__" = some (some (.builtin "object.__setattr__")))
    (h4 : PySem.W.findIn K (.ref C) "__getattribute__" = some (some (.builtin "BaseException.__getattribute__"))) (h5 : PySem.W.findIn K (.ref C) "__getattr__" = some none) (h6 : PySem.W.findIn K (.ref C) "__init__" = some (some (.ref fI)))
    (h7 : PySem.W.typeIn K (.ref fI) = some (.type "function")) (h8 : PySem.W.keepIn K (.ref C) = true) (h9 : PySem.W.subIn K (.ref C) (.type "BaseException") = some true) (h10 : PySem.W.subIn K (.ref C) (.type "ValueError") = some true)
    (h11 : PySem.W.typeIn K (.ref C) = some (.type "type")) (h12 : PySem.W.hasDictIn K C = true) (h13 : PySem.W.ks_superIn K C C "__init__" = some (some (.builtin "ValueError.__init__"))) (h14 : PySem.W.mroIn K C (.ref C) = some true) (h15 : PySem.W.exmOne K (.ref C) (.ref C) = some true)
    (h16 : PySem.W.nsIn K cStatics "thirdparty.any" = some none) (h17 : K.lookup fI = some ⟨oc, od, .func (PySem.W.ksFn "__init__" "NoBlock.__init__" (defArgs s_NoBlockU_initU) (defBody s_NoBlockU_initU) (defScope s_NoBlockU_initU) .none .none doc pm an (.ref cda) ct cc), osl⟩) (h18 : PySem.W.codeIn K (.ref cda) "NoBlock.__init__" = true)
    (h19 : K.lookup cda = some ⟨ccl, cdd, .fields vs, ccs⟩) (h20 : vs[2]? = some (.str P.main.file tf)) (h21 : K.lookup cc = some ⟨cl, cld, .cell (some (.ref C)), csl⟩)  : ErrC P K C fI s_NoBlockU_initU "NoBlock.__init__" [] ef_NoBlock := by
  refine ⟨⟨nm, qn, N, bs, bm, sn, sub, ab, col, dd, k0, k1, k2, k3, k5, h1, h2⟩, h3, h4, h5, ?_, h6, h7, h8, h9, h10, h11, h12, h13, h14, h15, h16, ⟨oc, od, doc, pm, an, cda, cc, ct, osl, ccl, cdd, vs, ccs, tf, cl, cld, csl, h17, h18, h19, h20, h21⟩, ⟨_, rfl, rfl⟩, (fun _ _ _ _ _ _ us hl => match us, hl with | [_], _ => rfl),
    ⟨_, _, _, _, _, _, _, _, _, rfl, .nil, fun L cda cc => ⟨_, rfl⟩⟩, rfl, rfl, rfl, by decide +kernel, by decide +kernel, rfl, rfl, by decide +kernel, by decide +kernel⟩
  intro p hp
  exact absurd hp (by simp)
abbrev ef_Waits : List (Str × Sum Nat Str) := [("word", .inr "waits"), ("record", .inl 0)]
theorem ec_Waits {K : PySem.W.Frag} {C fI : Addr} {nm qn : Str} {N : Addr} {bs bm : List Value} {sn : List Str} {sub : List Value} {ab : Bool} {col : Option Bool} {dd : Option Addr} {k0 k1 k2 k3 k5 : Option Value}
    {oc : Value} {od : Option Addr} {doc pm : Value} {an : Option Addr} {cda cc : Addr} {ct : Value} {osl : Array (Option Value)} {ccl : Value} {cdd : Option Addr} {vs : Array Value} {ccs : Array (Option Value)} {tf : Tok} {cl : Value} {cld : Option Addr} {csl : Array (Option Value)}
    (h1 : K.lookup C = some (excClassObj nm qn C N bs bm true sn sub ab col dd k0 k1 k2 k3 k5 "ValueError.__new__")) (h2 : PySem.HandSPX.refsVE bm = true) (h3 : PySem.W.findIn K (.ref C) "__setattr__" = some (some (.builtin "object.__setattr__")))
    (h4 : PySem.W.findIn K (.ref C) "__getattribute__" = some (some (.builtin "BaseException.__getattribute__"))) (h5 : PySem.W.findIn K (.ref C) "__getattr__" = some none) (h6 : PySem.W.findIn K (.ref C) "__init__" = some (some (.ref fI)))
    (h7 : PySem.W.typeIn K (.ref fI) = some (.type "function")) (h8 : PySem.W.keepIn K (.ref C) = true) (h9 : PySem.W.subIn K (.ref C) (.type "BaseException") = some true) (h10 : PySem.W.subIn K (.ref C) (.type "ValueError") = some true)
    (h11 : PySem.W.typeIn K (.ref C) = some (.type "type")) (h12 : PySem.W.hasDictIn K C = true) (h13 : PySem.W.ks_superIn K C C "__init__" = some (some (.builtin "ValueError.__init__"))) (h14 : PySem.W.mroIn K C (.ref C) = some true) (h15 : PySem.W.exmOne K (.ref C) (.ref C) = some true)
    (h16 : PySem.W.nsIn K cStatics "thirdparty.any" = some none) (h17 : K.lookup fI = some ⟨oc, od, .func (PySem.W.ksFn "__init__" "Waits.__init__" (defArgs s_WaitsU_initU) (defBody s_WaitsU_initU) (defScope s_WaitsU_initU) .none .none doc pm an (.ref cda) ct cc), osl⟩) (h18 : PySem.W.codeIn K (.ref cda) "Waits.__init__" = true)
    (h19 : K.lookup cda = some ⟨ccl, cdd, .fields vs, ccs⟩) (h20 : vs[2]? = some (.str P.main.file tf)) (h21 : K.lookup cc = some ⟨cl, cld, .cell (some (.ref C)), csl⟩) (nf0 : PySem.W.findIn K (.ref C) "word" = some none) (nf1 : PySem.W.findIn K (.ref C) "record" = some none) : ErrC P K C fI s_WaitsU_initU "Waits.__init__" ["record"] ef_Waits := by
  refine ⟨⟨nm, qn, N, bs, bm, sn, sub, ab, col, dd, k0, k1, k2, k3, k5, h1, h2⟩, h3, h4, h5, ?_, h6, h7, h8, h9, h10, h11, h12, h13, h14, h15, h16, ⟨oc, od, doc, pm, an, cda, cc, ct, osl, ccl, cdd, vs, ccs, tf, cl, cld, csl, h17, h18, h19, h20, h21⟩, ⟨_, rfl, rfl⟩, (fun _ _ _ _ _ _ us hl => match us, hl with | [_, _], _ => rfl),
    ⟨_, _, _, _, _, _, _, _, _, rfl, (.con (.par (i := 0) rfl .nil)), fun L cda cc => ⟨_, rfl⟩⟩, rfl, rfl, rfl, by decide +kernel, by decide +kernel, rfl, rfl, by decide +kernel, by decide +kernel⟩
  intro p hp
  rcases List.mem_cons.mp hp with rfl | hp
  · exact nf0
  rcases List.mem_cons.mp hp with rfl | hp
  · exact nf1
  · exact absurd hp (by simp)
abbrev ef_NoRecord : List (Str × Sum Nat Str) := [("record", .inl 0)]
theorem ec_NoRecord {K : PySem.W.Frag} {C fI : Addr} {nm qn : Str} {N : Addr} {bs bm : List Value} {sn : List Str} {sub : List Value} {ab : Bool} {col : Option Bool} {dd : Option Addr} {k0 k1 k2 k3 k5 : Option Value}
    {oc : Value} {od : Option Addr} {doc pm : Value} {an : Option Addr} {cda cc : Addr} {ct : Value} {osl : Array (Option Value)} {ccl : Value} {cdd : Option Addr} {vs : Array Value} {ccs : Array (Option Value)} {tf : Tok} {cl : Value} {cld : Option Addr} {csl : Array (Option Value)}
    (h1 : K.lookup C = some (excClassObj nm qn C N bs bm true sn sub ab col dd k0 k1 k2 k3 k5 "ValueError.__new__")) (h2 : PySem.HandSPX.refsVE bm = true) (h3 : PySem.W.findIn K (.ref C) "__setattr__" = some (some (.builtin "object.__setattr__")))
    (h4 : PySem.W.findIn K (.ref C) "__getattribute__" = some (some (.builtin "BaseException.__getattribute__"))) (h5 : PySem.W.findIn K (.ref C) "__getattr__" = some none) (h6 : PySem.W.findIn K (.ref C) "__init__" = some (some (.ref fI)))
    (h7 : PySem.W.typeIn K (.ref fI) = some (.type "function")) (h8 : PySem.W.keepIn K (.ref C) = true) (h9 : PySem.W.subIn K (.ref C) (.type "BaseException") = some true) (h10 : PySem.W.subIn K (.ref C) (.type "ValueError") = some true)
    (h11 : PySem.W.typeIn K (.ref C) = some (.type "type")) (h12 : PySem.W.hasDictIn K C = true) (h13 : PySem.W.ks_superIn K C C "__init__" = some (some (.builtin "ValueError.__init__"))) (h14 : PySem.W.mroIn K C (.ref C) = some true) (h15 : PySem.W.exmOne K (.ref C) (.ref C) = some true)
    (h16 : PySem.W.nsIn K cStatics "thirdparty.any" = some none) (h17 : K.lookup fI = some ⟨oc, od, .func (PySem.W.ksFn "__init__" "NoRecord.__init__" (defArgs s_NoRecordU_initU) (defBody s_NoRecordU_initU) (defScope s_NoRecordU_initU) .none .none doc pm an (.ref cda) ct cc), osl⟩) (h18 : PySem.W.codeIn K (.ref cda) "NoRecord.__init__" = true)
    (h19 : K.lookup cda = some ⟨ccl, cdd, .fields vs, ccs⟩) (h20 : vs[2]? = some (.str P.main.file tf)) (h21 : K.lookup cc = some ⟨cl, cld, .cell (some (.ref C)), csl⟩) (nf0 : PySem.W.findIn K (.ref C) "record" = some none) : ErrC P K C fI s_NoRecordU_initU "NoRecord.__init__" ["record"] ef_NoRecord := by
  refine ⟨⟨nm, qn, N, bs, bm, sn, sub, ab, col, dd, k0, k1, k2, k3, k5, h1, h2⟩, h3, h4, h5, ?_, h6, h7, h8, h9, h10, h11, h12, h13, h14, h15, h16, ⟨oc, od, doc, pm, an, cda, cc, ct, osl, ccl, cdd, vs, ccs, tf, cl, cld, csl, h17, h18, h19, h20, h21⟩, ⟨_, rfl, rfl⟩, (fun _ _ _ _ _ _ us hl => match us, hl with | [_, _], _ => rfl),
    ⟨_, _, _, _, _, _, _, _, _, rfl, (.par (i := 0) rfl .nil), fun L cda cc => ⟨_, rfl⟩⟩, rfl, rfl, rfl, by decide +kernel, by decide +kernel, rfl, rfl, by decide +kernel, by decide +kernel⟩
  intro p hp
  rcases List.mem_cons.mp hp with rfl | hp
  · exact nf0
  · exact absurd hp (by simp)
abbrev ef_BadWord : List (Str × Sum Nat Str) := [("word", .inl 0)]
theorem ec_BadWord {K : PySem.W.Frag} {C fI : Addr} {nm qn : Str} {N : Addr} {bs bm : List Value} {sn : List Str} {sub : List Value} {ab : Bool} {col : Option Bool} {dd : Option Addr} {k0 k1 k2 k3 k5 : Option Value}
    {oc : Value} {od : Option Addr} {doc pm : Value} {an : Option Addr} {cda cc : Addr} {ct : Value} {osl : Array (Option Value)} {ccl : Value} {cdd : Option Addr} {vs : Array Value} {ccs : Array (Option Value)} {tf : Tok} {cl : Value} {cld : Option Addr} {csl : Array (Option Value)}
    (h1 : K.lookup C = some (excClassObj nm qn C N bs bm true sn sub ab col dd k0 k1 k2 k3 k5 "ValueError.__new__")) (h2 : PySem.HandSPX.refsVE bm = true) (h3 : PySem.W.findIn K (.ref C) "__setattr__" = some (some (.builtin "object.__setattr__")))
    (h4 : PySem.W.findIn K (.ref C) "__getattribute__" = some (some (.builtin "BaseException.__getattribute__"))) (h5 : PySem.W.findIn K (.ref C) "__getattr__" = some none) (h6 : PySem.W.findIn K (.ref C) "__init__" = some (some (.ref fI)))
    (h7 : PySem.W.typeIn K (.ref fI) = some (.type "function")) (h8 : PySem.W.keepIn K (.ref C) = true) (h9 : PySem.W.subIn K (.ref C) (.type "BaseException") = some true) (h10 : PySem.W.subIn K (.ref C) (.type "ValueError") = some true)
    (h11 : PySem.W.typeIn K (.ref C) = some (.type "type")) (h12 : PySem.W.hasDictIn K C = true) (h13 : PySem.W.ks_superIn K C C "__init__" = some (some (.builtin "ValueError.__init__"))) (h14 : PySem.W.mroIn K C (.ref C) = some true) (h15 : PySem.W.exmOne K (.ref C) (.ref C) = some true)
    (h16 : PySem.W.nsIn K cStatics "thirdparty.any" = some none) (h17 : K.lookup fI = some ⟨oc, od, .func (PySem.W.ksFn "__init__" "BadWord.__init__" (defArgs s_BadWordU_initU) (defBody s_BadWordU_initU) (defScope s_BadWordU_initU) .none .none doc pm an (.ref cda) ct cc), osl⟩) (h18 : PySem.W.codeIn K (.ref cda) "BadWord.__init__" = true)
    (h19 : K.lookup cda = some ⟨ccl, cdd, .fields vs, ccs⟩) (h20 : vs[2]? = some (.str P.main.file tf)) (h21 : K.lookup cc = some ⟨cl, cld, .cell (some (.ref C)), csl⟩) (nf0 : PySem.W.findIn K (.ref C) "word" = some none) : ErrC P K C fI s_BadWordU_initU "BadWord.__init__" ["word"] ef_BadWord := by
  refine ⟨⟨nm, qn, N, bs, bm, sn, sub, ab, col, dd, k0, k1, k2, k3, k5, h1, h2⟩, h3, h4, h5, ?_, h6, h7, h8, h9, h10, h11, h12, h13, h14, h15, h16, ⟨oc, od, doc, pm, an, cda, cc, ct, osl, ccl, cdd, vs, ccs, tf, cl, cld, csl, h17, h18, h19, h20, h21⟩, ⟨_, rfl, rfl⟩, (fun _ _ _ _ _ _ us hl => match us, hl with | [_, _], _ => rfl),
    ⟨_, _, _, _, _, _, _, _, _, rfl, (.par (i := 0) rfl .nil), fun L cda cc => ⟨_, rfl⟩⟩, rfl, rfl, rfl, by decide +kernel, by decide +kernel, rfl, rfl, by decide +kernel, by decide +kernel⟩
  intro p hp
  rcases List.mem_cons.mp hp with rfl | hp
  · exact nf0
  · exact absurd hp (by simp)
abbrev ef_BadMode : List (Str × Sum Nat Str) := [("mode", .inl 0)]
theorem ec_BadMode {K : PySem.W.Frag} {C fI : Addr} {nm qn : Str} {N : Addr} {bs bm : List Value} {sn : List Str} {sub : List Value} {ab : Bool} {col : Option Bool} {dd : Option Addr} {k0 k1 k2 k3 k5 : Option Value}
    {oc : Value} {od : Option Addr} {doc pm : Value} {an : Option Addr} {cda cc : Addr} {ct : Value} {osl : Array (Option Value)} {ccl : Value} {cdd : Option Addr} {vs : Array Value} {ccs : Array (Option Value)} {tf : Tok} {cl : Value} {cld : Option Addr} {csl : Array (Option Value)}
    (h1 : K.lookup C = some (excClassObj nm qn C N bs bm true sn sub ab col dd k0 k1 k2 k3 k5 "ValueError.__new__")) (h2 : PySem.HandSPX.refsVE bm = true) (h3 : PySem.W.findIn K (.ref C) "__setattr__" = some (some (.builtin "object.__setattr__")))
    (h4 : PySem.W.findIn K (.ref C) "__getattribute__" = some (some (.builtin "BaseException.__getattribute__"))) (h5 : PySem.W.findIn K (.ref C) "__getattr__" = some none) (h6 : PySem.W.findIn K (.ref C) "__init__" = some (some (.ref fI)))
    (h7 : PySem.W.typeIn K (.ref fI) = some (.type "function")) (h8 : PySem.W.keepIn K (.ref C) = true) (h9 : PySem.W.subIn K (.ref C) (.type "BaseException") = some true) (h10 : PySem.W.subIn K (.ref C) (.type "ValueError") = some true)
    (h11 : PySem.W.typeIn K (.ref C) = some (.type "type")) (h12 : PySem.W.hasDictIn K C = true) (h13 : PySem.W.ks_superIn K C C "__init__" = some (some (.builtin "ValueError.__init__"))) (h14 : PySem.W.mroIn K C (.ref C) = some true) (h15 : PySem.W.exmOne K (.ref C) (.ref C) = some true)
    (h16 : PySem.W.nsIn K cStatics "thirdparty.any" = some none) (h17 : K.lookup fI = some ⟨oc, od, .func (PySem.W.ksFn "__init__" "BadMode.__init__" (defArgs s_BadModeU_initU) (defBody s_BadModeU_initU) (defScope s_BadModeU_initU) .none .none doc pm an (.ref cda) ct cc), osl⟩) (h18 : PySem.W.codeIn K (.ref cda) "BadMode.__init__" = true)
    (h19 : K.lookup cda = some ⟨ccl, cdd, .fields vs, ccs⟩) (h20 : vs[2]? = some (.str P.main.file tf)) (h21 : K.lookup cc = some ⟨cl, cld, .cell (some (.ref C)), csl⟩) (nf0 : PySem.W.findIn K (.ref C) "mode" = some none) : ErrC P K C fI s_BadModeU_initU "BadMode.__init__" ["mode"] ef_BadMode := by
  refine ⟨⟨nm, qn, N, bs, bm, sn, sub, ab, col, dd, k0, k1, k2, k3, k5, h1, h2⟩, h3, h4, h5, ?_, h6, h7, h8, h9, h10, h11, h12, h13, h14, h15, h16, ⟨oc, od, doc, pm, an, cda, cc, ct, osl, ccl, cdd, vs, ccs, tf, cl, cld, csl, h17, h18, h19, h20, h21⟩, ⟨_, rfl, rfl⟩, (fun _ _ _ _ _ _ us hl => match us, hl with | [_, _], _ => rfl),
    ⟨_, _, _, _, _, _, _, _, _, rfl, (.par (i := 0) rfl .nil), fun L cda cc => ⟨_, rfl⟩⟩, rfl, rfl, rfl, by decide +kernel, by decide +kernel, rfl, rfl, by decide +kernel, by decide +kernel⟩
  intro p hp
  rcases List.mem_cons.mp hp with rfl | hp
  · exact nf0
  · exact absurd hp (by simp)
abbrev ef_Failed : List (Str × Sum Nat Str) := [("word", .inl 0)]
theorem ec_Failed {K : PySem.W.Frag} {C fI : Addr} {nm qn : Str} {N : Addr} {bs bm : List Value} {sn : List Str} {sub : List Value} {ab : Bool} {col : Option Bool} {dd : Option Addr} {k0 k1 k2 k3 k5 : Option Value}
    {oc : Value} {od : Option Addr} {doc pm : Value} {an : Option Addr} {cda cc : Addr} {ct : Value} {osl : Array (Option Value)} {ccl : Value} {cdd : Option Addr} {vs : Array Value} {ccs : Array (Option Value)} {tf : Tok} {cl : Value} {cld : Option Addr} {csl : Array (Option Value)}
    (h1 : K.lookup C = some (excClassObj nm qn C N bs bm true sn sub ab col dd k0 k1 k2 k3 k5 "ValueError.__new__")) (h2 : PySem.HandSPX.refsVE bm = true) (h3 : PySem.W.findIn K (.ref C) "__setattr__" = some (some (.builtin "object.__setattr__")))
    (h4 : PySem.W.findIn K (.ref C) "__getattribute__" = some (some (.builtin "BaseException.__getattribute__"))) (h5 : PySem.W.findIn K (.ref C) "__getattr__" = some none) (h6 : PySem.W.findIn K (.ref C) "__init__" = some (some (.ref fI)))
    (h7 : PySem.W.typeIn K (.ref fI) = some (.type "function")) (h8 : PySem.W.keepIn K (.ref C) = true) (h9 : PySem.W.subIn K (.ref C) (.type "BaseException") = some true) (h10 : PySem.W.subIn K (.ref C) (.type "ValueError") = some true)
    (h11 : PySem.W.typeIn K (.ref C) = some (.type "type")) (h12 : PySem.W.hasDictIn K C = true) (h13 : PySem.W.ks_superIn K C C "__init__" = some (some (.builtin "ValueError.__init__"))) (h14 : PySem.W.mroIn K C (.ref C) = some true) (h15 : PySem.W.exmOne K (.ref C) (.ref C) = some true)
    (h16 : PySem.W.nsIn K cStatics "thirdparty.any" = some none) (h17 : K.lookup fI = some ⟨oc, od, .func (PySem.W.ksFn "__init__" "Failed.__init__" (defArgs s_FailedU_initU) (defBody s_FailedU_initU) (defScope s_FailedU_initU) .none .none doc pm an (.ref cda) ct cc), osl⟩) (h18 : PySem.W.codeIn K (.ref cda) "Failed.__init__" = true)
    (h19 : K.lookup cda = some ⟨ccl, cdd, .fields vs, ccs⟩) (h20 : vs[2]? = some (.str P.main.file tf)) (h21 : K.lookup cc = some ⟨cl, cld, .cell (some (.ref C)), csl⟩) (nf0 : PySem.W.findIn K (.ref C) "word" = some none) : ErrC P K C fI s_FailedU_initU "Failed.__init__" ["word"] ef_Failed := by
  refine ⟨⟨nm, qn, N, bs, bm, sn, sub, ab, col, dd, k0, k1, k2, k3, k5, h1, h2⟩, h3, h4, h5, ?_, h6, h7, h8, h9, h10, h11, h12, h13, h14, h15, h16, ⟨oc, od, doc, pm, an, cda, cc, ct, osl, ccl, cdd, vs, ccs, tf, cl, cld, csl, h17, h18, h19, h20, h21⟩, ⟨_, rfl, rfl⟩, (fun _ _ _ _ _ _ us hl => match us, hl with | [_, _], _ => rfl),
    ⟨_, _, _, _, _, _, _, _, _, rfl, (.par (i := 0) rfl .nil), fun L cda cc => ⟨_, rfl⟩⟩, rfl, rfl, rfl, by decide +kernel, by decide +kernel, rfl, rfl, by decide +kernel, by decide +kernel⟩
  intro p hp
  rcases List.mem_cons.mp hp with rfl | hp
  · exact nf0
  · exact absurd hp (by simp)
structure Ad where
  Mode : Addr
  Mode_ALL : Addr
  Mode_is_mode : Addr
  p_Mode_is_mode : Addr
  is_word : Addr
  Missing : Addr
  MissingU_initU : Addr
  Present : Addr
  PresentU_initU : Addr
  Doomed : Addr
  DoomedU_initU : Addr
  Refused : Addr
  RefusedU_initU : Addr
  NoBlock : Addr
  NoBlockU_initU : Addr
  Waits : Addr
  WaitsU_initU : Addr
  NoRecord : Addr
  NoRecordU_initU : Addr
  BadWord : Addr
  BadWordU_initU : Addr
  BadMode : Addr
  BadModeU_initU : Addr
  Failed : Addr
  FailedU_initU : Addr
  Write : Addr
  WriteU_initU : Addr
  Transaction : Addr
  TransactionU_initU : Addr
  Database : Addr
  DatabaseU_initU : Addr
  Database_begin : Addr
  Database_enter_alone : Addr
  Database_enter_inside : Addr
  Database_enter : Addr
  Database_doom : Addr
  Database_end_level : Addr
  Database_end_transaction : Addr
  Database_leave : Addr
  Database_held_by : Addr
  Database_held_records : Addr
  Database_outer_records : Addr
  Database_would_wait : Addr
  Database_write : Addr
  DatabaseU_setitemU : Addr
  Database_sees : Addr
  DatabaseU_getitemU : Addr
  DatabaseU_containsU : Addr
  Database_kept_values : Addr
  Database_fates : Addr
  Database_is_open : Addr
  p_Database_is_open : Addr
  Database_is_doomed : Addr
  p_Database_is_doomed : Addr
  Database_reason : Addr
  p_Database_reason : Addr
  Database_levels : Addr
  p_Database_levels : Addr
  Database_depth : Addr
  p_Database_depth : Addr
  law_pool : Addr
  law_draw : Addr
  law_word : Addr
  law_seen : Addr
  law_single : Addr
  law_enter : Addr
  law_other : Addr
  law_built : Addr
  law_wrong : Addr
  law : Addr
  InnercommitsError : Addr
structure Fd where
  Mode_is_mode : FuncData
  is_word : FuncData
  WriteU_initU : FuncData
  TransactionU_initU : FuncData
  DatabaseU_initU : FuncData
  Database_begin : FuncData
  Database_enter_alone : FuncData
  Database_enter_inside : FuncData
  Database_enter : FuncData
  Database_doom : FuncData
  Database_end_level : FuncData
  Database_end_transaction : FuncData
  Database_leave : FuncData
  Database_held_by : FuncData
  Database_held_records : FuncData
  Database_outer_records : FuncData
  Database_would_wait : FuncData
  Database_write : FuncData
  DatabaseU_setitemU : FuncData
  Database_sees : FuncData
  DatabaseU_getitemU : FuncData
  DatabaseU_containsU : FuncData
  Database_kept_values : FuncData
  Database_fates : FuncData
  Database_is_open : FuncData
  Database_is_doomed : FuncData
  Database_reason : FuncData
  Database_levels : FuncData
  Database_depth : FuncData
  law_pool : FuncData
  law_draw : FuncData
  law_word : FuncData
  law_seen : FuncData
  law_single : FuncData
  law_enter : FuncData
  law_other : FuncData
  law_built : FuncData
  law_wrong : FuncData
  law : FuncData
structure Txt (K : PySem.W.Frag) (mg : Str → Option Value) (a : Ad) (d : Fd) : Prop where
  g_Mode : mg "Mode" = some (.ref a.Mode)
  r_Mode : ClX.CRead K a.Mode (.type "type")
  c_Mode_JOIN : ∃ u, ClX.CVal K a.Mode (.type "type") "JOIN" (.str "join") u
  c_Mode_INNER : ∃ u, ClX.CVal K a.Mode (.type "type") "INNER" (.str "inner") u
  c_Mode_APART : ∃ u, ClX.CVal K a.Mode (.type "type") "APART" (.str "apart") u
  c_Mode_MUST : ∃ u, ClX.CVal K a.Mode (.type "type") "MUST" (.str "must") u
  c_Mode_EITHER : ∃ u, ClX.CVal K a.Mode (.type "type") "EITHER" (.str "either") u
  c_Mode_NEVER : ∃ u, ClX.CVal K a.Mode (.type "type") "NEVER" (.str "never") u
  c_Mode_OUTSIDE : ∃ u, ClX.CVal K a.Mode (.type "type") "OUTSIDE" (.str "outside") u
  c_Mode_ALONE : ∃ u, ClX.CVal K a.Mode (.type "type") "ALONE" (.str "alone") u
  c_Mode_ALL : ∃ u, ClX.CVal K a.Mode (.type "type") "ALL" (.ref a.Mode_ALL) u
  q_Mode_ALL : (∀ H, SqT K H a.Mode_ALL [.str "join", .str "inner", .str "apart", .str "must", .str "either", .str "never", .str "outside", .str "alone"])
  k_Mode_ALL : (∃ o, K.lookup a.Mode_ALL = some o ∧ o.cls = .type "tuple")
  Mode_is_mode : Fun K "is_mode" "Mode.is_mode" s_Mode_is_mode a.Mode_is_mode d.Mode_is_mode
  b_Mode_is_mode : Binds K d.Mode_is_mode ["thing"] []
  s_Mode_is_mode : SMet K a.Mode (.type "type") "is_mode" a.p_Mode_is_mode a.Mode_is_mode
  is_word : Fun K "is_word" "is_word" s_is_word a.is_word d.is_word
  b_is_word : Binds K d.is_word ["thing"] []
  g_is_word : mg "is_word" = some (.ref a.is_word)
  g_Missing : mg "Missing" = some (.ref a.Missing)
  e_Missing : ErrC P K a.Missing a.MissingU_initU s_MissingU_initU "Missing.__init__" ["mode"] ef_Missing
  g_Present : mg "Present" = some (.ref a.Present)
  e_Present : ErrC P K a.Present a.PresentU_initU s_PresentU_initU "Present.__init__" ["mode"] ef_Present
  g_Doomed : mg "Doomed" = some (.ref a.Doomed)
  e_Doomed : ErrC P K a.Doomed a.DoomedU_initU s_DoomedU_initU "Doomed.__init__" ["first"] ef_Doomed
  g_Refused : mg "Refused" = some (.ref a.Refused)
  e_Refused : ErrC P K a.Refused a.RefusedU_initU s_RefusedU_initU "Refused.__init__" [] ef_Refused
  g_NoBlock : mg "NoBlock" = some (.ref a.NoBlock)
  e_NoBlock : ErrC P K a.NoBlock a.NoBlockU_initU s_NoBlockU_initU "NoBlock.__init__" [] ef_NoBlock
  g_Waits : mg "Waits" = some (.ref a.Waits)
  e_Waits : ErrC P K a.Waits a.WaitsU_initU s_WaitsU_initU "Waits.__init__" ["record"] ef_Waits
  g_NoRecord : mg "NoRecord" = some (.ref a.NoRecord)
  e_NoRecord : ErrC P K a.NoRecord a.NoRecordU_initU s_NoRecordU_initU "NoRecord.__init__" ["record"] ef_NoRecord
  g_BadWord : mg "BadWord" = some (.ref a.BadWord)
  e_BadWord : ErrC P K a.BadWord a.BadWordU_initU s_BadWordU_initU "BadWord.__init__" ["word"] ef_BadWord
  g_BadMode : mg "BadMode" = some (.ref a.BadMode)
  e_BadMode : ErrC P K a.BadMode a.BadModeU_initU s_BadModeU_initU "BadMode.__init__" ["mode"] ef_BadMode
  g_Failed : mg "Failed" = some (.ref a.Failed)
  e_Failed : ErrC P K a.Failed a.FailedU_initU s_FailedU_initU "Failed.__init__" ["word"] ef_Failed
  x_Missing_BadMode : PySem.W.exmOne K (.ref a.Missing) (.ref a.BadMode) = some false
  x_Present_BadMode : PySem.W.exmOne K (.ref a.Present) (.ref a.BadMode) = some false
  x_Present_Missing : PySem.W.exmOne K (.ref a.Present) (.ref a.Missing) = some false
  x_Doomed_BadMode : PySem.W.exmOne K (.ref a.Doomed) (.ref a.BadMode) = some false
  x_Doomed_Missing : PySem.W.exmOne K (.ref a.Doomed) (.ref a.Missing) = some false
  x_Doomed_Present : PySem.W.exmOne K (.ref a.Doomed) (.ref a.Present) = some false
  x_NoRecord_BadWord : PySem.W.exmOne K (.ref a.NoRecord) (.ref a.BadWord) = some false
  x_NoBlock_BadWord : PySem.W.exmOne K (.ref a.NoBlock) (.ref a.BadWord) = some false
  x_NoBlock_NoRecord : PySem.W.exmOne K (.ref a.NoBlock) (.ref a.NoRecord) = some false
  g_Write : mg "Write" = some (.ref a.Write)
  k_Write : Cls K a.Write
  na_Write_record : NoAttr K a.Write "record"
  na_Write_value : NoAttr K a.Write "value"
  na_Write_fate : NoAttr K a.Write "fate"
  na_Write_holder : NoAttr K a.Write "holder"
  na_Write_level : NoAttr K a.Write "level"
  WriteU_initU : Fun K "__init__" "Write.__init__" s_WriteU_initU a.WriteU_initU d.WriteU_initU
  b_WriteU_initU : Binds K d.WriteU_initU ["self", "record", "value", "fate", "holder", "level"] []
  mk_Write : Mk K a.Write a.WriteU_initU
  g_Transaction : mg "Transaction" = some (.ref a.Transaction)
  k_Transaction : Cls K a.Transaction
  na_Transaction_number : NoAttr K a.Transaction "number"
  na_Transaction_reasons : NoAttr K a.Transaction "reasons"
  TransactionU_initU : Fun K "__init__" "Transaction.__init__" s_TransactionU_initU a.TransactionU_initU d.TransactionU_initU
  b_TransactionU_initU : Binds K d.TransactionU_initU ["self", "number"] []
  mk_Transaction : Mk K a.Transaction a.TransactionU_initU
  g_Database : mg "Database" = some (.ref a.Database)
  k_Database : Cls K a.Database
  na_Database_rows : NoAttr K a.Database "rows"
  na_Database_stack : NoAttr K a.Database "stack"
  na_Database_entered : NoAttr K a.Database "entered"
  na_Database_floor : NoAttr K a.Database "floor"
  na_Database_opened : NoAttr K a.Database "opened"
  DatabaseU_initU : Fun K "__init__" "Database.__init__" s_DatabaseU_initU a.DatabaseU_initU d.DatabaseU_initU
  b_DatabaseU_initU : Binds K d.DatabaseU_initU ["self"] []
  mk_Database : Mk K a.Database a.DatabaseU_initU
  Database_begin : Fun K "begin" "Database.begin" s_Database_begin a.Database_begin d.Database_begin
  b_Database_begin : Binds K d.Database_begin ["self"] []
  m_Database_begin : Meth K a.Database "begin" a.Database_begin
  Database_enter_alone : Fun K "enter_alone" "Database.enter_alone" s_Database_enter_alone a.Database_enter_alone d.Database_enter_alone
  b_Database_enter_alone : Binds K d.Database_enter_alone ["self", "mode"] []
  m_Database_enter_alone : Meth K a.Database "enter_alone" a.Database_enter_alone
  Database_enter_inside : Fun K "enter_inside" "Database.enter_inside" s_Database_enter_inside a.Database_enter_inside d.Database_enter_inside
  b_Database_enter_inside : Binds K d.Database_enter_inside ["self", "mode", "present"] []
  m_Database_enter_inside : Meth K a.Database "enter_inside" a.Database_enter_inside
  Database_enter : Fun K "enter" "Database.enter" s_Database_enter a.Database_enter d.Database_enter
  b_Database_enter : Binds K d.Database_enter ["self", "mode"] []
  m_Database_enter : Meth K a.Database "enter" a.Database_enter
  Database_doom : FunD K "doom" "Database.doom" (defArgs s_Database_doom) (defBody s_Database_doom) (defScope s_Database_doom) [.str "doom"] [] a.Database_doom d.Database_doom
  m_Database_doom : Meth K a.Database "doom" a.Database_doom
  Database_end_level : Fun K "end_level" "Database.end_level" s_Database_end_level a.Database_end_level d.Database_end_level
  b_Database_end_level : Binds K d.Database_end_level ["self", "error"] []
  m_Database_end_level : Meth K a.Database "end_level" a.Database_end_level
  Database_end_transaction : Fun K "end_transaction" "Database.end_transaction" s_Database_end_transaction a.Database_end_transaction d.Database_end_transaction
  b_Database_end_transaction : Binds K d.Database_end_transaction ["self", "error", "commits"] []
  m_Database_end_transaction : Meth K a.Database "end_transaction" a.Database_end_transaction
  Database_leave : FunD K "leave" "Database.leave" (defArgs s_Database_leave) (defBody s_Database_leave) (defScope s_Database_leave) [.non] [("commits", .bl true)] a.Database_leave d.Database_leave
  m_Database_leave : Meth K a.Database "leave" a.Database_leave
  Database_held_by : Fun K "held_by" "Database.held_by" s_Database_held_by a.Database_held_by d.Database_held_by
  b_Database_held_by : Binds K d.Database_held_by ["self", "numbers"] []
  m_Database_held_by : Meth K a.Database "held_by" a.Database_held_by
  Database_held_records : Fun K "held_records" "Database.held_records" s_Database_held_records a.Database_held_records d.Database_held_records
  b_Database_held_records : Binds K d.Database_held_records ["self"] []
  m_Database_held_records : Meth K a.Database "held_records" a.Database_held_records
  Database_outer_records : Fun K "outer_records" "Database.outer_records" s_Database_outer_records a.Database_outer_records d.Database_outer_records
  b_Database_outer_records : Binds K d.Database_outer_records ["self"] []
  m_Database_outer_records : Meth K a.Database "outer_records" a.Database_outer_records
  Database_would_wait : Fun K "would_wait" "Database.would_wait" s_Database_would_wait a.Database_would_wait d.Database_would_wait
  b_Database_would_wait : Binds K d.Database_would_wait ["self", "record"] []
  m_Database_would_wait : Meth K a.Database "would_wait" a.Database_would_wait
  Database_write : Fun K "write" "Database.write" s_Database_write a.Database_write d.Database_write
  b_Database_write : Binds K d.Database_write ["self", "record", "value"] []
  m_Database_write : Meth K a.Database "write" a.Database_write
  DatabaseU_setitemU : Fun K "__setitem__" "Database.__setitem__" s_DatabaseU_setitemU a.DatabaseU_setitemU d.DatabaseU_setitemU
  b_DatabaseU_setitemU : Binds K d.DatabaseU_setitemU ["self", "record", "value"] []
  m_DatabaseU_setitemU : Meth K a.Database "__setitem__" a.DatabaseU_setitemU
  Database_sees : Fun K "sees" "Database.sees" s_Database_sees a.Database_sees d.Database_sees
  b_Database_sees : Binds K d.Database_sees ["self", "row"] []
  m_Database_sees : Meth K a.Database "sees" a.Database_sees
  DatabaseU_getitemU : Fun K "__getitem__" "Database.__getitem__" s_DatabaseU_getitemU a.DatabaseU_getitemU d.DatabaseU_getitemU
  b_DatabaseU_getitemU : Binds K d.DatabaseU_getitemU ["self", "record"] []
  m_DatabaseU_getitemU : Meth K a.Database "__getitem__" a.DatabaseU_getitemU
  DatabaseU_containsU : Fun K "__contains__" "Database.__contains__" s_DatabaseU_containsU a.DatabaseU_containsU d.DatabaseU_containsU
  b_DatabaseU_containsU : Binds K d.DatabaseU_containsU ["self", "record"] []
  m_DatabaseU_containsU : Meth K a.Database "__contains__" a.DatabaseU_containsU
  Database_kept_values : Fun K "kept_values" "Database.kept_values" s_Database_kept_values a.Database_kept_values d.Database_kept_values
  b_Database_kept_values : Binds K d.Database_kept_values ["self"] []
  m_Database_kept_values : Meth K a.Database "kept_values" a.Database_kept_values
  Database_fates : Fun K "fates" "Database.fates" s_Database_fates a.Database_fates d.Database_fates
  b_Database_fates : Binds K d.Database_fates ["self"] []
  m_Database_fates : Meth K a.Database "fates" a.Database_fates
  Database_is_open : Fun K "is_open" "Database.is_open" s_Database_is_open a.Database_is_open d.Database_is_open
  b_Database_is_open : Binds K d.Database_is_open ["self"] []
  m_Database_is_open : PropOf K a.Database "is_open" a.p_Database_is_open a.Database_is_open
  Database_is_doomed : Fun K "is_doomed" "Database.is_doomed" s_Database_is_doomed a.Database_is_doomed d.Database_is_doomed
  b_Database_is_doomed : Binds K d.Database_is_doomed ["self"] []
  m_Database_is_doomed : PropOf K a.Database "is_doomed" a.p_Database_is_doomed a.Database_is_doomed
  Database_reason : Fun K "reason" "Database.reason" s_Database_reason a.Database_reason d.Database_reason
  b_Database_reason : Binds K d.Database_reason ["self"] []
  m_Database_reason : PropOf K a.Database "reason" a.p_Database_reason a.Database_reason
  Database_levels : Fun K "levels" "Database.levels" s_Database_levels a.Database_levels d.Database_levels
  b_Database_levels : Binds K d.Database_levels ["self"] []
  m_Database_levels : PropOf K a.Database "levels" a.p_Database_levels a.Database_levels
  Database_depth : Fun K "depth" "Database.depth" s_Database_depth a.Database_depth d.Database_depth
  b_Database_depth : Binds K d.Database_depth ["self"] []
  m_Database_depth : PropOf K a.Database "depth" a.p_Database_depth a.Database_depth
  ns_Database : PySem.W.noSeq K a.Database = true
  law_pool : Fun K "_law_pool" "_law_pool" s_law_pool a.law_pool d.law_pool
  b_law_pool : Binds K d.law_pool ["_law_script", "_law_at"] []
  g_law_pool : mg "_law_pool" = some (.ref a.law_pool)
  law_draw : Fun K "_law_draw" "_law_draw" s_law_draw a.law_draw d.law_draw
  b_law_draw : Binds K d.law_draw ["_law_pool_here", "_law_many"] []
  g_law_draw : mg "_law_draw" = some (.ref a.law_draw)
  law_word : Fun K "_law_word" "_law_word" s_law_word a.law_word d.law_word
  b_law_word : Binds K d.law_word ["_law_pool_here"] []
  g_law_word : mg "_law_word" = some (.ref a.law_word)
  law_seen : Fun K "_law_seen" "_law_seen" s_law_seen a.law_seen d.law_seen
  b_law_seen : Binds K d.law_seen ["_law_db"] []
  g_law_seen : mg "_law_seen" = some (.ref a.law_seen)
  law_single : Fun K "_law_single" "_law_single" s_law_single a.law_single d.law_single
  b_law_single : Binds K d.law_single ["_law_e"] []
  g_law_single : mg "_law_single" = some (.ref a.law_single)
  law_enter : Fun K "_law_enter" "_law_enter" s_law_enter a.law_enter d.law_enter
  b_law_enter : Binds K d.law_enter ["_law_db", "_law_mode"] []
  g_law_enter : mg "_law_enter" = some (.ref a.law_enter)
  law_other : Fun K "_law_other" "_law_other" s_law_other a.law_other d.law_other
  b_law_other : Binds K d.law_other ["_law_db", "_law_sort", "_law_thing"] []
  g_law_other : mg "_law_other" = some (.ref a.law_other)
  law_built : Fun K "_law_built" "_law_built" s_law_built a.law_built d.law_built
  b_law_built : Binds K d.law_built ["_law_pool_here"] []
  g_law_built : mg "_law_built" = some (.ref a.law_built)
  law_wrong : Fun K "_law_wrong" "_law_wrong" s_law_wrong a.law_wrong d.law_wrong
  b_law_wrong : Binds K d.law_wrong ["_law_pool_here"] []
  g_law_wrong : mg "_law_wrong" = some (.ref a.law_wrong)
  law : Fun K "law" "law" s_law a.law d.law
  b_law : Binds K d.law ["_law_script"] []
  g_law : mg "law" = some (.ref a.law)
  n_isinstance : mg "isinstance" = none
  n_str : mg "str" = none
  n_len : mg "len" = none
  n_super : mg "super" = none
  n_sorted : mg "sorted" = none
  n_abs : mg "abs" = none
  n_int : mg "int" = none
  n_range : mg "range" = none
  n_repr : mg "repr" = none
  n_list : mg "list" = none
  n_sum : mg "sum" = none
  n_ValueError : mg "ValueError" = none
  n_max : mg "max" = none
  n_min : mg "min" = none
  fi_DatabaseU_getitemU : PySem.W.fnIn K a.DatabaseU_getitemU = true
  g_InnercommitsError : mg "InnercommitsError" = some (.ref a.InnercommitsError)
  km : kitAll K [a.BadMode, a.BadWord, a.Doomed, a.Missing, a.NoBlock, a.NoRecord, a.Present, a.Failed, a.Refused, a.Waits] = true
  kb : kitBase K a.InnercommitsError [a.BadMode, a.BadWord, a.Doomed, a.Missing, a.NoBlock, a.NoRecord, a.Present, a.Failed, a.Refused, a.Waits] = true
  kx : exkAll K [a.BadMode, a.BadWord, a.Doomed, a.Missing, a.NoBlock, a.NoRecord, a.Present, a.Failed, a.Refused, a.Waits] = true
  ks : PySem.W.specialIn K (.builtin "object.__class__") "__get__" = some (some (.builtin "getset_descriptor.__get__"))
  kt : PySem.W.takesIn K (.builtin "object.__class__") = some true

section
variable {w : World} {K : PySem.W.Frag} {mg : Str → Option Value} {base : Heap} {a : Ad} {d : Fd}
theorem ok_law_draw (T : Txt K mg a d) : FnOk P w K mg base CX0 1 a.law_draw d.law_draw ["_law_pool_here", "_law_many"] spDraw := by
  refine T.law_draw.ok sc_law_draw (fun vs H Q E h => ?_) (fun cdv A outer s H vs Q E hr h => ?_)
  · obtain ⟨p, m, c, o, rfl, _⟩ := h
    rfl
  · obtain ⟨p, m, c, o, rfl, hp, ⟨x, y, n, rfl, hx, hy, hy2, hn, hn2⟩, hm, hm2, hc, k⟩ := h
    have hw : ∀ i : Int, CDivW i m := fun i => wide_div (b := 200) hm (by omega) (by decide) (by decide)
    have e1 : (b2 : Int) → 0 ≤ b2 → b2 < 2 ^ 62 → CPow (b2 + 48611 * (n + 1)) 3 := fun b2 h1 h2 => ⟨by decide, by decide, by omega⟩
    have e2 : (b2 : Int) → 0 ≤ b2 → b2 < 2 ^ 62 → CPow (b2 + 104729 * (n + 1)) 3 := fun b2 h1 h2 => ⟨by decide, by decide, by omega⟩
    have e3 : ∀ i j : Int, -1000000 < i → i < 1000000 → CMul i j := fun i j h1 h2 => .inl ⟨by omega, by omega⟩
    refine ⟨_, (pss_cons (ps_if (pt_cmpR op_gt (pe_ix ix_list (pv 0) pe_int (fun _ _ => rfl)) pe_int (nomark _)) (pss_cons (ps_set (i := 2) sc_law_draw.nd rfl (Or.inl rfl) (pe_op op_mod (pe_callTy call_int1 (by rfl) T.n_int (by decide +kernel) (pa_cons (pe_ix ix_list (pv 0) pe_int (fun _ _ => rfl)) pa_nil)) (pv 1)))
  (pss_cons (ps_asg (pe_op op_fdivW (pe_ix ix_list (pv 0) pe_int (fun _ _ => rfl)) (pv 1)) (pg_sub (pv 0) pe_int set_list))
  (pss_one (ps_ret (pv 2))))) pss_nil)
  (pss_cons (ps_set (i := 3) sc_law_draw.nd rfl (Or.inl rfl) (pe_op op_add (pe_ix ix_list (pv 0) pe_int (fun _ _ => rfl)) pe_int))
  (pss_cons (ps_asg (pv 3) (pg_sub (pv 0) pe_int set_list))
  (pss_cons (ps_set (i := 4) sc_law_draw.nd rfl (Or.inl rfl) (pe_op op_mod (pe_callTy call_int1 (by rfl) T.n_int (by decide +kernel) (pa_cons (pe_op op_add (pe_op op_pow (pe_op op_add (pe_ix ix_list (pv 0) pe_int (fun _ _ => rfl)) (pe_op op_mul pe_int (pv 3))) pe_int) (pe_op op_mul pe_int (pv 3))) pa_nil)) pe_int))
  (pss_cons (ps_set (i := 4) sc_law_draw.nd rfl (Or.inl rfl) (pe_op op_mod (pe_callTy call_int1 (by rfl) T.n_int (by decide +kernel) (pa_cons (pe_op op_pow (pe_op op_add (pv 4) (pe_op op_mul pe_int (pv 3))) pe_int) pa_nil)) pe_int))
  (pss_one (ps_ret (pe_op op_mod (pe_callTy call_int1 (by rfl) T.n_int (by decide +kernel) (pa_cons (pe_op op_fdivW (pv 4) pe_int) pa_nil)) (pv 1))))))))), ?_⟩
    dsimp only [cxOf]
    walk_at "rd"
    refine ite2 (fun c0 => ?_) (fun c0 => ?_)
    · have c1 : 0 < x := of_decide_eq_true c0
      walk_at "rd"
      refine And.intro (hw _) ?_
      walk_at "rd"
      refine k _ _ (Int.emod_nonneg _ (by omega)) (Int.emod_lt_of_pos _ hm) ⟨_, _, _, rfl, Int.ediv_nonneg (by omega) (by omega), hy, hy2, hn, by omega⟩
    · walk_at "rd"
      refine And.intro (e1 _ hy hy2) ?_
      walk_at "rd"
      refine And.intro (e2 _ (Int.emod_nonneg _ (by decide)) (Int.lt_trans (Int.emod_lt_of_pos _ (by decide)) (by decide))) ?_
      walk_at "rd"
      refine k _ _ (Int.emod_nonneg _ (by omega)) (Int.emod_lt_of_pos _ hm) ⟨_, _, _, rfl, hx, hy, hy2, by omega, by omega⟩
theorem ok_law_pool (T : Txt K mg a d) : FnOk P w K mg base CX0 1 a.law_pool d.law_pool ["_law_script", "_law_at"] (spPool K) := by
  refine T.law_pool.ok sc_law_pool (fun vs H Q E h => ?_) (fun cdv A outer s H vs Q E hr h => ?_)
  · obtain ⟨p, ns, i, rfl, _⟩ := h
    rfl
  · obtain ⟨p, ns, i, rfl, hS, hi, k⟩ := h
    have e3 : ∀ i j : Int, -1000000 < i → i < 1000000 → CMul i j := fun i j h1 h2 => .inl ⟨by omega, by omega⟩
    have e4 : ∀ i j : Int, -1000000 < j → j < 1000000 → CMul i j := fun i j h1 h2 => .inr ⟨by omega, by omega⟩
    refine ⟨_, (pss_cons (ps_set (i := 2) sc_law_pool.nd rfl (Or.inl rfl) (pe_ifExp (pt_cmpR op_lt (pv 1) (pe_callB call_len_seq (by rfl) T.n_len PySem.boot_len (pa_cons (pv 0) pa_nil)) (nomark _)) (pe_ix ix_list (pv 0) (pv 1) (fun _ _ => rfl)) pe_int))
  (pss_cons (ps_set (i := 3) sc_law_pool.nd rfl (Or.inl rfl) (pe_callB call_abs (by rfl) T.n_abs (by decide +kernel) (pa_cons (pv 2) pa_nil)))
  (pss_cons (ps_set (i := 4) sc_law_pool.nd rfl (Or.inl rfl) (pe_op op_mod (pe_callTy call_int1 (by rfl) T.n_int (by decide +kernel) (pa_cons (pe_op op_add (pe_op op_add (pe_op op_mul (pv 3) pe_int) (pe_op op_mul pe_int (pv 1))) (pe_callTy call_int1 (by rfl) T.n_int (by decide +kernel) (pa_cons (pe_cmpR op_lt (pv 2) pe_int (nomark _)) pa_nil))) pa_nil)) pe_int))
  (pss_one (ps_ret (pe_lst (pa_cons (pe_ifExp (pt_cmpR op_ge (pv 3) (pe_op op_pow pe_int pe_int) (nomark _)) (pv 3) pe_int) (pa_cons (pe_op op_add (pv 4) pe_int) (pa_cons pe_int pa_nil))))))))), ?_⟩
    dsimp only [cxOf]
    walk_at "rd"
    refine ite2 (fun c0 => ?_) (fun c0 => ?_)
    · have c1 : (i : Int) < ((ns.map V.int).length : Int) := of_decide_eq_true c0
      rw [List.length_map] at c1
      have c2 : i < ns.length := by omega
      have hz : (ns.map V.int)[i]? = some (.int ns[i]) := by
        rw [List.getElem?_map, List.getElem?_eq_getElem c2]; rfl
      walk_at "rd"
      refine And.intro (atI_nat hz) ?_
      walk_at "rd"
      refine ite2 (fun c2 => ?_) (fun c2 => ?_)
      all_goals
        walk_at "rd"
        intro q hq
        exact k q _ hq ⟨_, _, _, rfl, (by first | (split <;> omega) | decide), Int.add_nonneg (Int.emod_nonneg _ (by decide)) (by decide), Int.lt_trans (Int.add_lt_add_right (Int.emod_lt_of_pos _ (by decide)) _) (by decide), Int.le_refl 0, Int.le_refl 0⟩
    · walk_at "rd"
      intro q hq
      exact k q _ hq ⟨_, _, _, rfl, Int.le_refl 0, Int.add_nonneg (Int.emod_nonneg _ (by decide)) (by decide), Int.lt_trans (Int.add_lt_add_right (Int.emod_lt_of_pos _ (by decide)) _) (by decide), Int.le_refl 0, Int.le_refl 0⟩
theorem ok_law_word (T : Txt K mg a d) : FnOk P w K mg base CX0 2 a.law_word d.law_word ["_law_pool_here"] spWord := by
  have G_law_draw : FnOk P w K mg base CX0 1 a.law_draw d.law_draw ["_law_pool_here", "_law_many"] spDraw := ok_law_draw T
  refine T.law_word.ok sc_law_word (fun vs H Q E h => ?_) (fun cdv A outer s H vs Q E hr h => ?_)
  · obtain ⟨p, c, o, rfl, _⟩ := h
    rfl
  · obtain ⟨p, c, o, rfl, hp, hc, hb, k⟩ := h
    refine ⟨_, (pss_cons (ps_set (i := 1) sc_law_word.nd rfl (Or.inr rfl) pe_str)
  (pss_one (ps_ret (pe_join pe_str (pe_lc (own := [("_law_k", 2)]) (tt := tYes) rfl sc_law_word.nd (pi_range1 (by rfl) T.n_range (pa_cons (pe_op op_add pe_int (pe_call G_law_draw (hr.mono (by decide)) (by rfl) T.g_law_draw T.law_draw.kp T.b_law_draw .nil pass0 (pa_cons (pv 0) (pa_cons pe_int pa_nil)))) pa_nil)) (blkOk_by (own := [("_law_k", 2)]) (N := ["_law_pool_here", "_law_letters", "_law_k"]) (sc := defScope s_law_word) (by decide +kernel)) (fun _ _ _ _ _ => (pg_name (i := 2) sc_law_word.nd rfl (Or.inl rfl))) (fun _ _ _ _ _ => pts_nil) (fun _ _ _ _ _ => (pe_ix ix_str (pv 1) (pe_call G_law_draw (hr.mono (by decide)) (by rfl) T.g_law_draw T.law_draw.kp T.b_law_draw .nil pass0 (pa_cons (pv 0) (pa_cons pe_int pa_nil))) (fun _ _ => rfl)))))))), ?_⟩
    dsimp only [cxOf]
    walk_at "rd"
    intro r o1 r0 r1 h1
    walk_at "rd"
    intro D hD
    refine lc_letters (c := c + 1) hD upd_same h1 (by omega) (by omega) rfl rfl (by decide) (by decide) fun H' cs o2 e1 e2 e3 e4 e5 e6 => ?_
    refine ⟨_, _, cs.map chr1, rfl, rfl, Or.inl (SqL.of e6), ?_, ?_⟩
    · rw [sum_chr, e1]
      have : (Str.ofString "").length = 0 := by decide +kernel
      rw [this]; omega
    · rw [join_chr]
      refine k _ o2 _ ⟨?_, ?_, e2⟩ (e5.mono (by omega)) e4 (Kp.refl.set1.trans e3)
      · show 1 ≤ cs.length
        omega
      · show cs.length ≤ 8
        omega
theorem ok_is_word (T : Txt K mg a d) : FnOk P w K mg base CX0 1 a.is_word d.is_word ["thing"] spIsWord := by
  refine T.is_word.ok sc_is_word (fun vs H Q E h => ?_) (fun cdv A outer s H vs Q E hr h => ?_)
  · obtain ⟨v, rfl, _⟩ := h
    rfl
  · obtain ⟨v, rfl, hv, k⟩ := h
    refine ⟨_, (pss_cons (ps_if (PW.pt (pw_or (pt_not (pt_val (pe_callB call_isi (by rfl) T.n_isinstance (by decide +kernel) (pa_cons (pv 0) (pa_cons (pe_bltn (v := .ty "str") (u := .type "str") (by rfl) T.n_str (by decide +kernel) rfl) pa_nil))))) (pw_or1 (pt_not (pt_chain op_le op_le pe_int (pe_callB call_len_str (by rfl) T.n_len PySem.boot_len (pa_cons (pv 0) pa_nil)) pe_int))))) (pss_one (ps_ret pe_bl)) pss_nil)
  (pss_cons (ps_for PassesOwn.never rfl (pi_str (pv 0)) (pg_name (i := 1) sc_is_word.nd rfl (Or.inl rfl))
  (pss_one (ps_if (pt_not (pt_chain op_le_str op_le_str pe_str (pv 1) pe_str)) (pss_one (ps_ret pe_bl)) pss_nil)))
  (pss_one (ps_ret pe_bl)))), ?_⟩
    dsimp only [cxOf]
    obtain ⟨ty, h1, h2⟩ := hv.isi (K := K)
    refine ⟨_, rfl, _, _, _, _, _, rfl, ClsV.ty _, h1, h2, _, rfl, ?_⟩
    cases hv with
    | str z hz ha0 =>
      refine iteF ?_
      have hs : z.length ≤ sizeLine := by rw [sizeLine_eq]; omega
      refine ⟨_, rfl, z, rfl, hs, ?_⟩
      walk_at "rd"
      by_cases c1 : (1 : Int) ≤ (z.length : Int)
      · rw [decide_eq_true c1]
        refine iteT ?_
        walk_at "rd"
        by_cases c2 : (z.length : Int) ≤ 8
        · rw [decide_eq_true c2]
          refine iteF ?_
          walk_at "rd"
          refine for_it (walk_str (z := z)) (fun i σ H' => H' = H ∧ ∃ v, σ = [some (.str z), v] ∧ (z.cps.toList.take i).all okC = true) ?_ (fun _ _ _ _ _ => trivial) ?_ ?_
          · exact ⟨rfl, none, rfl, rfl⟩
          · rintro i x σ H1 H2 hi ⟨rfl, v, rfl, ha⟩ ⟨rfl, c, hc, rfl⟩
            have hc' : z.cps.toList[i]? = some c := by rw [Array.getElem?_toList]; exact hc
            walk_at "rd"
            rw [le_a]
            by_cases d1 : 97 ≤ c
            · rw [decide_eq_true d1]
              refine iteT ?_
              walk_at "rd"
              rw [le_z]
              by_cases d2 : c ≤ 122
              · rw [decide_eq_true d2]
                refine iteF ?_
                refine ⟨rfl, _, rfl, all_take hc' ha ?_⟩
                unfold okC; rw [decide_eq_true d1, decide_eq_true d2]; rfl
              · rw [decide_eq_false d2]
                refine iteT ?_
                have : wordB (.str z) = false := by
                  show wordS z = false
                  unfold wordS; rw [all_no hc' (show okC c = false by unfold okC; rw [decide_eq_false d2, Bool.and_false]), Bool.and_false]
                rw [this] at k
                exact k
            · rw [decide_eq_false d1]
              refine iteF ?_
              walk_at "rd"
              refine iteT ?_
              have : wordB (.str z) = false := by
                show wordS z = false
                unfold wordS; rw [all_no hc' (show okC c = false by unfold okC; rw [decide_eq_false d1, Bool.false_and]), Bool.and_false]
              rw [this] at k
              exact k
          · rintro σ H1 ⟨rfl, v, rfl, ha⟩
            have e : (z.cps.toList.take z.cps.size) = z.cps.toList := List.take_of_length_le (by simp)
            rw [e] at ha
            have : wordB (.str z) = true := by
              show wordS z = true
              unfold wordS; rw [ha, decide_eq_true (show 1 ≤ z.length by omega), decide_eq_true (show z.length ≤ 8 by omega)]; rfl
            rw [this] at k
            exact k
        · rw [decide_eq_false c2]
          refine iteT ?_
          have : wordB (.str z) = false := by
            show wordS z = false
            unfold wordS; rw [decide_eq_false (show ¬ z.length ≤ 8 by omega), Bool.and_false, Bool.false_and]
          rw [this] at k
          exact k
      · rw [decide_eq_false c1]
        refine iteF ?_
        walk_at "rd"
        refine iteT ?_
        have : wordB (.str z) = false := by
          show wordS z = false
          unfold wordS; rw [decide_eq_false (show ¬ 1 ≤ z.length by omega), Bool.false_and, Bool.false_and]
        rw [this] at k
        exact k
    | int i => exact iteT (iteT k)
    | bl b => exact iteT (iteT k)
    | non => exact iteT (iteT k)
    | lst h => exact iteT (iteT k)
    | tup h => exact iteT (iteT k)
/-! ### modes -/
abbrev modesS : List Str := ["join", "inner", "apart", "must", "either", "never", "outside", "alone"]
abbrev modesV : List V := [.str "join", .str "inner", .str "apart", .str "must", .str "either", .str "never", .str "outside", .str "alone"]
def modeB (v : V) : Bool := strB v && inV v modesV
theorem strB_flat {v : V} (h : strB v = true) : flatV v = true := by
  cases v <;> first | rfl | cases h
def spIsMode : Sp := fun vs H Q _ => ∃ v, vs = [v] ∧ Thing H v ∧ Q (.bl (modeB v)) H
theorem ok_Mode_is_mode (T : Txt K mg a d) : FnOk P w K mg base CX0 1 a.Mode_is_mode d.Mode_is_mode ["thing"] spIsMode := by
  refine T.Mode_is_mode.ok sc_Mode_is_mode (fun vs H Q E h => ?_) (fun cdv A outer s H vs Q E hr h => ?_)
  · obtain ⟨v, rfl, _⟩ := h
    rfl
  · obtain ⟨v, rfl, hv, k⟩ := h
    refine ⟨_, (pss_one (ps_ret (pe_and (pe_callB call_isi (by rfl) T.n_isinstance (by decide +kernel) (pa_cons (pv 0) (pa_cons (pe_bltn (v := .ty "str") (u := .type "str") (by rfl) T.n_str (by decide +kernel) rfl) pa_nil))) (pe_one (pe_cmpR op_in_seq (pv 0) (ClX.pe_cval (pe_glob (v := .ref a.Mode) (by rfl) T.g_Mode rfl)) (by rfl)))))), ?_⟩
    dsimp only [cxOf]
    obtain ⟨ty, h1, h2⟩ := hv.isi (K := K)
    refine ⟨_, rfl, _, _, _, _, _, rfl, ClsV.ty _, h1, h2, _, rfl, ?_⟩
    obtain ⟨u, hu⟩ := T.c_Mode_ALL
    unfold modeB at k
    cases hb : strB v with
    | true =>
      rw [hb] at k
      refine iteT ⟨_, rfl, _, _, _, _, rfl, T.r_Mode, hu, _, _, rfl, .inr (T.q_Mode_ALL H), strB_flat hb, rfl, k⟩
    | false =>
      rw [hb] at k
      exact iteF k
theorem mode_thing {H : Hp} {m : Str} (h : m ∈ modesS) : Thing H (.str m) := by
  refine .str m ?_ ?_
  · have : modesS.all (fun m => decide (m.length ≤ 1000)) = true := by decide +kernel
    exact of_decide_eq_true (List.all_eq_true.mp this m h)
  · intro c hc
    have : modesS.all (fun m => m.cps.toList.all fun c => decide (c < 128)) = true := by decide +kernel
    exact of_decide_eq_true (List.all_eq_true.mp (List.all_eq_true.mp this m h) c hc)
theorem mode_isB {m : Str} (h : m ∈ modesS) : modeB (.str m) = true := by
  have : modesS.all (fun m => modeB (.str m)) = true := by decide +kernel
  exact List.all_eq_true.mp this m h
/-! ### Transaction(n), Database() -/
abbrev DB (a : Ad) := DbAt a.Database a.Transaction a.Write
def spTxI (a : Ad) : Sp := fun vs H Q _ => ∃ (x dx : Addr) (n : Int), vs = [.ref x, .int n] ∧ H x = some (.ins a.Transaction dx []) ∧ ∀ q, H q = none → q ≠ x → Q .non (upd (upd (upd H x (.ins a.Transaction dx [("number", .int n)])) q (.lst [.non])) x (.ins a.Transaction dx (txF n q)))
theorem ok_TransactionU_initU (T : Txt K mg a d) : FnOk P w K mg base CX0 1 a.TransactionU_initU d.TransactionU_initU ["self", "number"] (spTxI a) := by
  refine T.TransactionU_initU.ok sc_TransactionU_initU (fun vs H Q E h => ?_) (fun cdv A outer s H vs Q E hr h => ?_)
  · obtain ⟨x, dx, n, rfl, _⟩ := h
    rfl
  · obtain ⟨x, dx, n, rfl, hx, k⟩ := h
    have c1 := T.k_Transaction
    have n1 := T.na_Transaction_number
    have n2 := T.na_Transaction_reasons
    refine ⟨_, (pss_cons (ps_fld (pv 0) (pv 1) rfl)
  (pss_one (ps_fld (pv 0) (pe_lst (pa_cons pe_non pa_nil)) rfl))), ?_⟩
    dsimp only [cxOf]
    walk_at "rd"
    intro q hq
    have hqx : q ≠ x := fun e => by rw [e, upd_same] at hq; cases hq
    rw [upd_ne hqx] at hq
    have h1 : (upd (upd H x (.ins a.Transaction dx [("number", .int n)])) q (.lst [.non])) x = some (.ins a.Transaction dx [("number", .int n)]) := upd_oth (Ne.symm hqx) upd_same
    walk_at "rd"
    exact k q hq hqx
def spDbI (a : Ad) : Sp := fun vs H Q _ => ∃ (x dx : Addr), vs = [.ref x] ∧ H x = some (.ins a.Database dx []) ∧
  ∀ H' L, DB a H' L ⟨[], [none], [], 0, 0⟩ → L.db = x → Kp (fun b => b = x) H H' → (∀ b, Mut L b → b = x ∨ H b = none) → Q .non H'
theorem ok_DatabaseU_initU (T : Txt K mg a d) : FnOk P w K mg base CX0 1 a.DatabaseU_initU d.DatabaseU_initU ["self"] (spDbI a) := by
  refine T.DatabaseU_initU.ok sc_DatabaseU_initU (fun vs H Q E h => ?_) (fun cdv A outer s H vs Q E hr h => ?_)
  · obtain ⟨x, dx, rfl, _⟩ := h
    rfl
  · obtain ⟨x, dx, rfl, hx, k⟩ := h
    have c1 := T.k_Database
    have n1 := T.na_Database_rows
    have n2 := T.na_Database_stack
    have n3 := T.na_Database_entered
    have n4 := T.na_Database_floor
    have n5 := T.na_Database_opened
    refine ⟨_, (pss_cons (ps_fld (pv 0) (pe_lst pa_nil) rfl)
  (pss_cons (ps_fld (pv 0) (pe_lst (pa_cons pe_non pa_nil)) rfl)
  (pss_cons (ps_fld (pv 0) (pe_lst pa_nil) rfl)
  (pss_cons (ps_fld (pv 0) pe_int rfl)
  (pss_one (ps_fld (pv 0) pe_int rfl)))))), ?_⟩
    dsimp only [cxOf]
    walk_at "rd"
    intro r hr0
    have nxr := ne_of_none hx hr0
    walk_at "rd"
    intro s1 hs
    obtain ⟨nsx, hs1⟩ := none_upd hs
    obtain ⟨nsr, hs2⟩ := none_upd hs1
    walk_at "rd"
    intro e1 he
    obtain ⟨nex, he1⟩ := none_upd he
    obtain ⟨nes, he2⟩ := none_upd he1
    obtain ⟨nex, he3⟩ := none_upd he2
    obtain ⟨ner, he4⟩ := none_upd he3
    walk_at "rd"
    refine k _ ⟨x, dx, r, s1, e1, [], [none]⟩ ⟨upd_same, ?_, ?_, ?_, .nil, .cons trivial .nil, Ne.symm nsr, Ne.symm ner, Ne.symm nes, (fun t m => by simp at m), by simp, by simp, by simp⟩ rfl ?_ ?_
    · show (_ : Hp) r = some (.lst [])
      walk_at "hp"
    · show (_ : Hp) s1 = some (.lst [.non])
      walk_at "hp"
    · show (_ : Hp) e1 = some (.lst [])
      walk_at "hp"
    · walk_at "kp"
    · intro b hb
      rcases hb with rfl | rfl | rfl | rfl | ⟨t, m, rfl⟩ | ⟨w, m, rfl⟩
      · exact .inl rfl
      · exact .inr hr0
      · exact .inr hs2
      · exact .inr he4
      · simp at m
      · simp at m
/-! ### the database's methods -/
structure Sm (D : Db) : Prop where
  e : D.entered.length ≤ 100000
  s : D.stack.length ≤ 100000
  r : ∀ x, some x ∈ D.stack → x.rs.length ≤ 100000
  n : D.rows.length ≤ 4000
inductive EK
  | missing (m : Str)
  | present (m : Str)
  | doomed (z : Str)
  | refused
  | noblock
  | waits (z : Str)
  | norecord (z : Str)
  | badword (v : V)
  | badmode (v : V)
def errE (a : Ad) (e : EK) (H : Hp) (E : XK) : Prop := match e with
  | .missing m => errQ a.Missing ef_Missing [.str m] H E
  | .present m => errQ a.Present ef_Present [.str m] H E
  | .doomed z => errQ a.Doomed ef_Doomed [.str z] H E
  | .refused => errQ a.Refused ef_Refused [] H E
  | .noblock => errQ a.NoBlock ef_NoBlock [] H E
  | .waits z => errQ a.Waits ef_Waits [.str z] H E
  | .norecord z => errQ a.NoRecord ef_NoRecord [.str z] H E
  | .badword v => errQ a.BadWord ef_BadWord [v] H E
  | .badmode v => errQ a.BadMode ef_BadMode [v] H E
/-- what a method leaves: the state, and an error or None -/
def outE (a : Ad) (r : Db × Option EK) (H : Hp) (L : Lay) (Q : VK) (E : XK) : Prop := ∀ H' L', DB a H' L' r.1 → Fr H H' L L' → match r.2 with
  | none => Q .non H'
  | some e => errE a e H' E
theorem outE.fr {a : Ad} {r : Db × Option EK} {H H1 : Hp} {L L1 : Lay} {Q : VK} {E : XK} (k : outE a r H L Q E) (f : Fr H H1 L L1) : outE a r H1 L1 Q E := fun H' L' d f' => k H' L' d (f.trans f')
def plainD (D : Db) (z : Str) : Db := { D with entered := z :: D.entered }
theorem outE.putE {a : Ad} {H : Hp} {L : Lay} {D : Db} {z : Str} {Q : VK} {E : XK} (hD : DB a H L D) (k : outE a (plainD D z, none) H L Q E) : Q .non (upd H L.e (.lst (rv V.str D.entered ++ [.str z]))) := by
  have := k _ _ (hD.setE (z :: D.entered)) (Fr.set DbAt.mutE)
  rw [rv_cons] at this
  exact this
def beginD (D : Db) : Db := { D with stack := some ⟨D.opened, [none]⟩ :: D.stack, opened := D.opened + 1, entered := "base" :: D.entered }
def spBegin (a : Ad) : Sp := fun vs H Q E => ∃ L D, vs = [.ref L.db] ∧ DB a H L D ∧ Sm D ∧ outE a (beginD D, none) H L Q E
theorem ts_len {a : Ad} {H : Hp} {L : Lay} {D : Db} (h : DB a H L D) (m : Sm D) : (rv tV L.ts).length < sizeLine := by
  rw [rv_len, h.txs.len, sizeLine_eq]
  have := m.s
  omega
theorem es_len {D : Db} (m : Sm D) : (rv V.str D.entered).length < sizeLine := by
  rw [rv_len, sizeLine_eq]
  have := m.e
  omega
theorem ok_Database_begin (T : Txt K mg a d) : FnOk P w K mg base CX0 3 a.Database_begin d.Database_begin ["self"] (spBegin a) := by
  have G_TransactionU_initU : FnOk P w K mg base CX0 1 a.TransactionU_initU d.TransactionU_initU ["self", "number"] (spTxI a) := ok_TransactionU_initU T
  refine T.Database_begin.ok sc_Database_begin (fun vs H Q E h => ?_) (fun cdv A outer s H vs Q E hr h => ?_)
  · obtain ⟨L, D, rfl, _⟩ := h
    rfl
  · obtain ⟨L, D, rfl, hD, hm, k⟩ := h
    have c1 := T.k_Database
    have n1 := T.na_Database_stack
    have n2 := T.na_Database_entered
    have n3 := T.na_Database_opened
    have h1 := hD.db
    have h2 := hD.s
    have h3 := hD.e
    have l1 := ts_len hD hm
    have l2 := es_len hm
    refine ⟨_, (pss_cons (ps_expr (pe_bm PySem.F.plainAttrs_list PySem.F.slot_list_append PySem.F.type_list_append mt_append (pe_fld (pv 0) rfl) (pa_cons (pe_make T.mk_Transaction G_TransactionU_initU (hr.mono (by decide)) (by rfl) T.g_Transaction T.b_TransactionU_initU .nil pass0 (pa_cons (pe_fld (pv 0) rfl) pa_nil)) pa_nil)))
  (pss_cons (ps_fldaug (pv 0) pe_int in_add)
  (pss_one (ps_expr (pe_bm PySem.F.plainAttrs_list PySem.F.slot_list_append PySem.F.type_list_append mt_append (pe_fld (pv 0) rfl) (pa_cons pe_str pa_nil)))))), ?_⟩
    dsimp only [cxOf]
    walk_at "rd"
    intro x dx hx hdx nxd
    refine ⟨x, dx, D.opened, rfl, upd_same, fun q hq nq => ⟨rfl, ?_⟩⟩
    obtain ⟨_, hq1⟩ := none_upd hq
    obtain ⟨nqd, hq2⟩ := none_upd hq1
    generalize hH1 : upd (upd (upd (upd (upd H dx (HO.own x)) x (HO.ins a.Transaction dx [])) x (HO.ins a.Transaction dx [("number", V.int D.opened)])) q (HO.lst [V.non])) x (HO.ins a.Transaction dx (txF D.opened q)) = H1
    have k1 : Same H H1 := fun b u e => by
      rw [← hH1]
      exact upd_oth (ne_of_none e hx) (upd_oth (ne_of_none e hq2) (upd_oth (ne_of_none e hx) (upd_oth (ne_of_none e hx) (upd_oth (ne_of_none e hdx) e))))
    have hx1 : H1 x = some (.ins a.Transaction dx (txF D.opened q)) := by rw [← hH1]; exact upd_same
    have hq3 : H1 q = some (.lst (rv oV [none])) := by rw [← hH1]; exact upd_oth nq upd_same
    have hD1 : DB a H1 L D := hD.keep fun b u _ e => k1 b u e
    have hD2 := hD1.pushT (t := ⟨x, dx, q⟩) hx1 hq3 (by simp) (hD.fresh hq2 )
    have f2 : Fr H _ L _ := Fr.pushT (t := ⟨x, dx, q⟩) (o := .lst (rv tV (some ⟨x, dx, q⟩ :: L.ts))) (.of_same k1) hq2
    rw [← show rv tV L.ts ++ [V.ref x] = rv tV (some ⟨x, dx, q⟩ :: L.ts) from (rv_cons (f := tV) (x := some ⟨x, dx, q⟩)).symm] at hD2 f2
    have g1 := hD1.s
    have g2 : upd H1 L.s (HO.lst (rv tV L.ts ++ [V.ref x])) L.db = some (.ins a.Database L.dx (dbF L.r L.s L.e D.floor D.opened)) := hD2.db
    have g3 : upd H1 L.s (HO.lst (rv tV L.ts ++ [V.ref x])) L.e = some (.lst (rv V.str D.entered)) := hD2.e
    have g4 : L.e ≠ L.db := Ne.symm (ins_ne h1 h3)
    walk_at "rd"
    have hD4 := (hD2.setD D.floor (D.opened + 1)).setE ("base" :: D.entered)
    have f4 := (f2.trans (Fr.set (o := .ins a.Database L.dx (dbF L.r L.s L.e D.floor (D.opened + 1))) DbAt.mutD)).trans (Fr.set (o := .lst (rv V.str ("base" :: D.entered))) DbAt.mutE)
    rw [rv_cons] at hD4 f4
    exact k _ _ hD4 f4
/-! ### enter -/
def aloneD (D : Db) (m : Str) : Db × Option EK :=
  if decide (V.str m = V.str "must") = true then (D, some (.missing m)) else if inV (.str m) [.str "either", .str "never", .str "outside"] = true then (plainD D "plain", none) else (beginD D, none)
def spAlone (a : Ad) : Sp := fun vs H Q E => ∃ L D m, vs = [.ref L.db, .str m] ∧ DB a H L D ∧ Sm D ∧ outE a (aloneD D m) H L Q E
theorem ok_Database_enter_alone (T : Txt K mg a d) : FnOk P w K mg base (L2N.CX P w) 4 a.Database_enter_alone d.Database_enter_alone ["self", "mode"] (spAlone a) := by
  have G_Database_begin : FnOk P w K mg base CX0 3 a.Database_begin d.Database_begin ["self"] (spBegin a) := ok_Database_begin T
  refine T.Database_enter_alone.okXN sc_Database_enter_alone (fun vs H Q E h => ?_) (fun cdv A outer s H vs Q E hr h => ?_)
  · obtain ⟨L, D, m, rfl, _⟩ := h
    rfl
  · obtain ⟨L, D, m, rfl, hD, hm, k⟩ := h
    have c1 := T.k_Database
    have n2 := T.na_Database_entered
    have h1 := hD.db
    have h3 := hD.e
    have l2 := es_len hm
    obtain ⟨u1, k1⟩ := T.c_Mode_MUST
    obtain ⟨u2, k2⟩ := T.c_Mode_EITHER
    obtain ⟨u3, k3⟩ := T.c_Mode_NEVER
    obtain ⟨u4, k4⟩ := T.c_Mode_OUTSIDE
    have r1 := T.r_Mode
    refine ⟨_, (pss_cons (ps_if (pt_cmpR op_eq (pv 1) (ClX.pe_cval (pe_glob (v := .ref a.Mode) (by rfl) T.g_Mode rfl)) (nomark _)) (pss_one (ps_raise rfl (takes_of rfl rfl rfl rfl) (pmk_err T.e_Missing T.g_Missing T.n_super hr (pa_cons (pv 1) pa_nil)))) pss_nil)
  (pss_one (ps_if (pt_cmpR op_in_seq (pv 1) (pe_tup (pa_cons (ClX.pe_cval (pe_glob (v := .ref a.Mode) (by rfl) T.g_Mode rfl)) (pa_cons (ClX.pe_cval (pe_glob (v := .ref a.Mode) (by rfl) T.g_Mode rfl)) (pa_cons (ClX.pe_cval (pe_glob (v := .ref a.Mode) (by rfl) T.g_Mode rfl)) pa_nil)))) (by rfl)) (pss_one (ps_expr (pe_bm PySem.F.plainAttrs_list PySem.F.slot_list_append PySem.F.type_list_append mt_append (pe_fld (pv 0) rfl) (pa_cons pe_str pa_nil)))) (pss_one (ps_expr (pe_meth0 (pv 0) T.k_Database T.m_Database_begin G_Database_begin (hr.mono (by decide)) T.b_Database_begin .nil pass0)))))), ?_⟩
    dsimp only [cxOf]
    walk_at "rd"
    unfold aloneD at k
    refine ite2 (fun c0 => ?_) (fun c0 => ?_)
    · rw [if_pos c0] at k
      walk_at "rd"
      exact k H L hD Fr.refl
    · rw [if_neg c0] at k
      walk_at "rd"
      intro p hp
      have hD1 : DB a _ L D := hD.new (o := .tup [.str "either", .str "never", .str "outside"]) hp
      have f1 : Fr H _ L L := Fr.refl.new (o := .tup [.str "either", .str "never", .str "outside"]) hp
      have h1 := hD1.db
      have h3 := hD1.e
      have hp1 := upd_same (H := H) (a := p) (o := .tup [.str "either", .str "never", .str "outside"])
      generalize upd H p (.tup [.str "either", .str "never", .str "outside"]) = H1 at hD1 f1 h1 h3 hp1 ⊢
      walk_at "rd"
      refine ite2 (fun c1 => ?_) (fun c1 => ?_)
      · rw [if_pos (show inV (V.str m) [V.str "either", V.str "never", V.str "outside"] = true from c1)] at k
        walk_at "rd"
        exact (k.fr f1).putE hD1
      · rw [if_neg (show ¬ inV (V.str m) [V.str "either", V.str "never", V.str "outside"] = true from c1)] at k
        walk_at "rd"
        exact ⟨L, D, rfl, hD1, hm, k.fr f1⟩
def lvlD (D : Db) (m : Str) (n : Int) (y : Option Str) (rs : List (Option Str)) (st : List (Option Tx)) : Db × Option EK :=
  if inV (.str m) [.str "never", .str "alone"] = true then (D, some (.present m)) else
  if decide (V.str m = V.str "inner") = true then (match y with
    | some z => (D, some (.doomed z))
    | none => (plainD { D with stack := some ⟨n, none :: y :: rs⟩ :: st } "level", none)) else
  if decide (V.str m = V.str "apart") = true then (beginD D, none) else
  if decide (V.str m = V.str "outside") = true then (plainD { D with stack := none :: D.stack } "outside", none) else (plainD D "joined", none)
def spInside (a : Ad) : Sp := fun vs H Q E => ∃ L D m t ts n y rs st, vs = [.ref L.db, .str m, .ref t.t] ∧ DB a H L D ∧ Sm D ∧ L.ts = some t :: ts ∧ D.stack = some ⟨n, y :: rs⟩ :: st ∧ outE a (lvlD D m n y rs st) H L Q E
theorem ok_Database_enter_inside (T : Txt K mg a d) : FnOk P w K mg base (L2N.CX P w) 4 a.Database_enter_inside d.Database_enter_inside ["self", "mode", "present"] (spInside a) := by
  have G_Database_begin : FnOk P w K mg base CX0 3 a.Database_begin d.Database_begin ["self"] (spBegin a) := ok_Database_begin T
  refine T.Database_enter_inside.okXN sc_Database_enter_inside (fun vs H Q E h => ?_) (fun cdv A outer s H vs Q E hr h => ?_)
  · obtain ⟨L, D, m, t, ts, n, y, rs, st, rfl, _⟩ := h
    rfl
  · obtain ⟨L, D, m, t, ts, n, y, rs, st, rfl, hD0, hm, et, es, k⟩ := h
    have c1 := T.k_Database
    have c2 := T.k_Transaction
    have n1 := T.na_Database_stack
    have n2 := T.na_Database_entered
    have n3 := T.na_Transaction_reasons
    obtain ⟨u1, k1⟩ := T.c_Mode_NEVER
    obtain ⟨u2, k2⟩ := T.c_Mode_ALONE
    obtain ⟨u3, k3⟩ := T.c_Mode_INNER
    obtain ⟨u4, k4⟩ := T.c_Mode_APART
    obtain ⟨u5, k5⟩ := T.c_Mode_OUTSIDE
    have r1 := T.r_Mode
    refine ⟨_, (pss_cons (ps_if (pt_cmpR op_in_seq (pv 1) (pe_tup (pa_cons (ClX.pe_cval (pe_glob (v := .ref a.Mode) (by rfl) T.g_Mode rfl)) (pa_cons (ClX.pe_cval (pe_glob (v := .ref a.Mode) (by rfl) T.g_Mode rfl)) pa_nil))) (by rfl)) (pss_one (ps_raise rfl (takes_of rfl rfl rfl rfl) (pmk_err T.e_Present T.g_Present T.n_super hr (pa_cons (pv 1) pa_nil)))) pss_nil)
  (pss_one (ps_if (pt_cmpR op_eq (pv 1) (ClX.pe_cval (pe_glob (v := .ref a.Mode) (by rfl) T.g_Mode rfl)) (nomark _)) (pss_cons (ps_if (pt_cmpR op_notN (pe_ix ix_list (pe_fld (pv 2) rfl) (pe_un un_neg pe_int) (fun _ _ => rfl)) pe_non (nomark _)) (pss_one (ps_raise rfl (takes_of rfl rfl rfl rfl) (pmk_err T.e_Doomed T.g_Doomed T.n_super hr (pa_cons (pe_ix ix_list (pe_fld (pv 2) rfl) (pe_un un_neg pe_int) (fun _ _ => rfl)) pa_nil)))) pss_nil)
  (pss_cons (ps_expr (pe_bm PySem.F.plainAttrs_list PySem.F.slot_list_append PySem.F.type_list_append mt_append (pe_fld (pv 2) rfl) (pa_cons pe_non pa_nil)))
  (pss_one (ps_expr (pe_bm PySem.F.plainAttrs_list PySem.F.slot_list_append PySem.F.type_list_append mt_append (pe_fld (pv 0) rfl) (pa_cons pe_str pa_nil)))))) (pss_one (ps_if (pt_cmpR op_eq (pv 1) (ClX.pe_cval (pe_glob (v := .ref a.Mode) (by rfl) T.g_Mode rfl)) (nomark _)) (pss_one (ps_expr (pe_meth0 (pv 0) T.k_Database T.m_Database_begin G_Database_begin (hr.mono (by decide)) T.b_Database_begin .nil pass0))) (pss_one (ps_if (pt_cmpR op_eq (pv 1) (ClX.pe_cval (pe_glob (v := .ref a.Mode) (by rfl) T.g_Mode rfl)) (nomark _)) (pss_cons (ps_expr (pe_bm PySem.F.plainAttrs_list PySem.F.slot_list_append PySem.F.type_list_append mt_append (pe_fld (pv 0) rfl) (pa_cons pe_non pa_nil)))
  (pss_one (ps_expr (pe_bm PySem.F.plainAttrs_list PySem.F.slot_list_append PySem.F.type_list_append mt_append (pe_fld (pv 0) rfl) (pa_cons pe_str pa_nil))))) (pss_one (ps_expr (pe_bm PySem.F.plainAttrs_list PySem.F.slot_list_append PySem.F.type_list_append mt_append (pe_fld (pv 0) rfl) (pa_cons pe_str pa_nil))))))))))), ?_⟩
    dsimp only [cxOf]
    walk_at "rd"
    intro p hp
    have hD : DB a _ L D := hD0.new (o := .tup [.str "never", .str "alone"]) hp
    have f1 : Fr H _ L L := Fr.refl.new (o := .tup [.str "never", .str "alone"]) hp
    have hp1 := upd_same (H := H) (a := p) (o := .tup [.str "never", .str "alone"])
    generalize upd H p (.tup [.str "never", .str "alone"]) = H1 at hD f1 hp1 ⊢
    replace k := k.fr f1
    have mt : some t ∈ L.ts := by rw [et]; exact List.mem_cons_self
    have h1 := hD.db
    have h2 := hD.s
    have h3 := hD.e
    have hx := hD.txs
    rw [et, es] at hx
    obtain ⟨h4, h5, h6⟩ : TxAt a.Transaction H1 (some t) (some ⟨n, y :: rs⟩) := by cases hx; assumption
    have e1 := rv_at (f := oV) (x := y) (l := rs)
    have l2 := es_len hm
    have l1 := ts_len hD hm
    unfold lvlD at k
    walk_at "rd"
    refine ite2 (fun b1 => ?_) (fun b1 => ?_)
    · rw [if_pos (show inV (V.str m) [V.str "never", V.str "alone"] = true from b1)] at k
      walk_at "rd"
      exact k H1 L hD Fr.refl
    rw [if_neg (show ¬ inV (V.str m) [V.str "never", V.str "alone"] = true from b1)] at k
    walk_at "rd"
    refine ite2 (fun b2 => ?_) (fun b2 => ?_)
    · rw [if_pos b2] at k
      have hd : ∀ z, H1 t.q ≠ some (.ins a.Database L.dx z) := fun z e => by rw [h5] at e; cases e
      walk_at "rd"
      cases y with
      | some z =>
        refine iteT ?_
        walk_at "rd"
        exact k H1 L hD Fr.refl
      | none =>
        refine iteF ?_
        have hD2 := hD.setQ (rs := none :: none :: rs) et es (by simp)
        have f2 := Fr.set (H := H1) (o := .lst (rv oV (none :: none :: rs))) (DbAt.mutQ mt)
        rw [show rv oV (none :: none :: rs) = rv oV (none :: rs) ++ [V.non] from rv_cons] at hD2 f2
        have g1 := hD2.db
        have g2 := hD2.e
        dsimp only at g1 g2
        have l3 : (rv oV (none :: rs)).length < sizeLine := by
          rw [rv_len, sizeLine_eq]
          have := hm.r ⟨n, none :: rs⟩ (by rw [es]; exact List.mem_cons_self)
          dsimp only at this
          omega
        walk_at "rd"
        have z := outE.putE hD2 (k.fr f2)
        exact z
    rw [if_neg b2] at k
    walk_at "rd"
    refine ite2 (fun b3 => ?_) (fun b3 => ?_)
    · rw [if_pos b3] at k
      walk_at "rd"
      exact ⟨L, D, rfl, hD, hm, k⟩
    rw [if_neg b3] at k
    walk_at "rd"
    refine ite2 (fun b4 => ?_) (fun b4 => ?_)
    · rw [if_pos b4] at k
      have hD2 := hD.pushN
      have f2 := Fr.pushN (H := H1) (L := L) (o := .lst (rv tV (none :: L.ts)))
      rw [show rv tV (none :: L.ts) = rv tV L.ts ++ [V.non] from rv_cons] at hD2 f2
      have g1 := hD2.db
      have g2 := hD2.e
      dsimp only at g1 g2
      walk_at "rd"
      have z := outE.putE hD2 (k.fr f2)
      exact z
    rw [if_neg b4] at k
    walk_at "rd"
    exact k.putE hD
def enterD (D : Db) (m : Str) : Db × Option EK := match D.stack with
  | none :: _ => aloneD D m
  | some ⟨n, y :: rs⟩ :: st => lvlD D m n y rs st
  | _ => (D, none)
def enterV (D : Db) (v : V) : Db × Option EK := if modeB v = true then (match v with
  | .str m => enterD D m
  | _ => (D, none)) else (D, some (.badmode v))
def spEnter (a : Ad) : Sp := fun vs H Q E => ∃ L D v, vs = [.ref L.db, v] ∧ Thing H v ∧ DB a H L D ∧ Sm D ∧ outE a (enterV D v) H L Q E
theorem ok_Database_enter (T : Txt K mg a d) : FnOk P w K mg base (L2N.CX P w) 5 a.Database_enter d.Database_enter ["self", "mode"] (spEnter a) := by
  have G_Mode_is_mode : FnOk P w K mg base CX0 1 a.Mode_is_mode d.Mode_is_mode ["thing"] spIsMode := ok_Mode_is_mode T
  have G_Database_enter_alone : FnOk P w K mg base (L2N.CX P w) 4 a.Database_enter_alone d.Database_enter_alone ["self", "mode"] (spAlone a) := ok_Database_enter_alone T
  have G_Database_enter_inside : FnOk P w K mg base (L2N.CX P w) 4 a.Database_enter_inside d.Database_enter_inside ["self", "mode", "present"] (spInside a) := ok_Database_enter_inside T
  refine T.Database_enter.okXN sc_Database_enter (fun vs H Q E h => ?_) (fun cdv A outer s H vs Q E hr h => ?_)
  · obtain ⟨L, D, v, rfl, _⟩ := h
    rfl
  · obtain ⟨L, D, v, rfl, tm, hD, hm, k⟩ := h
    have c1 := T.k_Database
    have n1 := T.na_Database_stack
    have h1 := hD.db
    have h2 := hD.s
    refine ⟨_, (pss_cons (ps_if (pt_not (pt_val (pe_smeth (pe_glob (v := .ref a.Mode) (by rfl) T.g_Mode rfl) T.r_Mode T.s_Mode_is_mode G_Mode_is_mode (hr.mono (by decide)) T.Mode_is_mode.kp T.b_Mode_is_mode .nil pass0 (pa_cons (pv 1) pa_nil)))) (pss_one (ps_raise rfl (takes_of rfl rfl rfl rfl) (pmk_err T.e_BadMode T.g_BadMode T.n_super hr (pa_cons (pv 1) pa_nil)))) pss_nil)
  (pss_one (ps_if (pt_cmpR op_isN (pe_ix ix_list (pe_fld (pv 0) rfl) (pe_un un_neg pe_int) (fun _ _ => rfl)) pe_non (nomark _)) (pss_one (ps_expr (pe_meth (pv 0) T.k_Database T.m_Database_enter_alone G_Database_enter_alone (hr.mono (by decide)) T.b_Database_enter_alone .nil (passes_call (takes_of rfl rfl rfl rfl) (fun _ _ _ _ h => h)) (pa_cons (pv 1) pa_nil)))) (pss_one (ps_expr (pe_meth (pv 0) T.k_Database T.m_Database_enter_inside G_Database_enter_inside (hr.mono (by decide)) T.b_Database_enter_inside .nil (passes_call (takes_of rfl rfl rfl rfl) (fun _ _ _ _ h => h)) (pa_cons (pv 1) (pa_cons (pe_ix ix_list (pe_fld (pv 0) rfl) (pe_un un_neg pe_int) (fun _ _ => rfl)) pa_nil)))))))), ?_⟩
    dsimp only [cxOf]
    walk_at "rd"
    unfold enterV at k
    cases bm : modeB v with
    | false =>
      rw [bm] at k
      refine iteT ?_
      walk_at "rd"
      exact k H L hD Fr.refl
    | true =>
      rw [bm] at k
      refine iteF ?_
      obtain ⟨m, rfl⟩ : ∃ m, v = .str m := by
        cases v <;> first | exact ⟨_, rfl⟩ | cases bm
      dsimp only [if_true] at k
      rw [if_pos rfl] at k
      unfold enterD at k
      rcases hD.top with ⟨ts, st, et, es⟩ | ⟨t, ts, x, st, y, rs, et, es, ex, h4, h5⟩
      · rw [es] at k
        rw [et] at h2
        have e1 := rv_at (f := tV) (x := none) (l := ts)
        walk_at "rd"
        exact ⟨L, D, m, rfl, hD, hm, k⟩
      · obtain ⟨n, rs0⟩ := x
        dsimp only at ex
        subst ex
        rw [es] at k
        rw [et] at h2
        have e1 := rv_at (f := tV) (x := some t) (l := ts)
        walk_at "rd"
        exact ⟨L, D, m, t, ts, n, y, rs, st, rfl, hD, hm, et, es, k⟩
theorem enterV_mode {D : Db} {m : Str} (h : m ∈ modesS) : enterV D (.str m) = enterD D m := by
  unfold enterV
  rw [if_pos (mode_isB h)]
/-! ### doom -/
theorem bd_doom (T : Txt K mg a d) : Binds K d.Database_doom ["self", "first"] [] := by
  obtain ⟨ds, h1, h2⟩ := T.Database_doom.binds1 (ps := ["self", "first"]) 2 1 (by simp) rfl fun T kV doc pm an cdv ct us its hu hi => match us, hu, its, hi with | [_, _], _, [_], _ => ⟨_, rfl, rfl⟩
  cases h1
  exact h2
def doomD (D : Db) (z : Str) : Db := match D.stack with
  | some ⟨n, none :: rs⟩ :: st => { D with stack := some ⟨n, some z :: rs⟩ :: st }
  | _ => D
def doomV (D : Db) (v : V) : Db × Option EK := if wordB v = true then (match v with
  | .str z => (doomD D z, none)
  | _ => (D, none)) else (D, some (.badword v))
theorem IsWord.asc {w : Str} (h : IsWord w) : asc w := fun c hc => by
  have := h.al c hc
  omega
theorem word_thing {H : Hp} {w : Str} (h : IsWord w) : Thing H (.str w) := .str w (by rw [← len_toList]; have := h.hi; omega) h.asc
theorem doomV_word {D : Db} {z : Str} (h : IsWord z) : doomV D (.str z) = (doomD D z, none) := by
  unfold doomV
  rw [if_pos (show wordB (.str z) = true from h.ok)]
def spDoom (a : Ad) : Sp := fun vs H Q E => ∃ L D v, vs = [.ref L.db, v] ∧ Thing H v ∧ DB a H L D ∧ outE a (doomV D v) H L Q E
theorem ok_Database_doom (T : Txt K mg a d) : FnOk P w K mg base (L2N.CX P w) 2 a.Database_doom d.Database_doom ["self", "first"] (spDoom a) := by
  have G_is_word : FnOk P w K mg base CX0 1 a.is_word d.is_word ["thing"] spIsWord := ok_is_word T
  refine T.Database_doom.ok sc_Database_doom (fun vs H Q E h => ?_) (fun cdv A outer s H vs Q E hr h => ?_)
  · obtain ⟨L, D, v, rfl, _⟩ := h
    rfl
  · obtain ⟨L, D, v, rfl, tz, hD, k⟩ := h
    have c1 := T.k_Database
    have c2 := T.k_Transaction
    have n1 := T.na_Database_stack
    have n3 := T.na_Transaction_reasons
    have h1 := hD.db
    have h2 := hD.s
    refine ⟨_, (pss_cons (ps_if (pt_not (pt_val (pe_call G_is_word (hr.mono (by decide)) (by rfl) T.g_is_word T.is_word.kp T.b_is_word .nil pass0 (pa_cons (pv 1) pa_nil)))) (pss_one (ps_raise rfl (takes_of rfl rfl rfl rfl) (pmk_err T.e_BadWord T.g_BadWord T.n_super hr (pa_cons (pv 1) pa_nil)))) pss_nil)
  (pss_cons (ps_set (i := 2) sc_Database_doom.nd rfl (Or.inl rfl) (pe_ix ix_list (pe_fld (pv 0) rfl) (pe_un un_neg pe_int) (fun _ _ => rfl)))
  (pss_one (ps_if (PW.pt (pw_and (pt_cmpR op_notN (pv 2) pe_non (nomark _)) (pw_and1 (pt_cmpR op_isN (pe_ix ix_list (pe_fld (pv 2) rfl) (pe_un un_neg pe_int) (fun _ _ => rfl)) pe_non (nomark _))))) (pss_one (ps_asg (pv 1) (pg_sub (pe_fld (pv 2) rfl) (pe_un un_neg pe_int) set_list))) pss_nil)))), ?_⟩
    dsimp only [cxOf]
    walk_at "rd"
    unfold doomV at k
    cases bz : wordB v with
    | false =>
      rw [bz] at k
      refine iteT ?_
      walk_at "rd"
      exact k H L hD Fr.refl
    | true =>
      rw [bz, if_pos rfl] at k
      refine iteF ?_
      obtain ⟨z, rfl⟩ : ∃ z, v = .str z := by
        cases v <;> first | exact ⟨_, rfl⟩ | cases bz
      unfold doomD at k
      dsimp only at k
      rcases hD.top with ⟨ts, st, et, es⟩ | ⟨t, ts, x, st, y, rs, et, es, ex, h4, h5⟩
      · rw [es] at k
        rw [et] at h2
        have e1 := rv_at (f := tV) (x := none) (l := ts)
        walk_at "rd"
        exact k H L hD Fr.refl
      · obtain ⟨n, rs0⟩ := x
        dsimp only at ex
        subst ex
        rw [es] at k
        rw [et] at h2
        have e1 := rv_at (f := tV) (x := some t) (l := ts)
        have e2 := rv_at (f := oV) (x := y) (l := rs)
        have e3 := rv_ix (f := oV) (x := y) (l := rs)
        have mt : some t ∈ L.ts := by rw [et]; exact List.mem_cons_self
        cases y with
        | some y =>
          walk_at "rd"
          exact k H L hD Fr.refl
        | none =>
          walk_at "rd"
          have hD2 := hD.setQ (rs := some z :: rs) et es (by simp)
          have f2 := Fr.set (H := H) (o := .lst (rv oV (some z :: rs))) (DbAt.mutQ mt)
          have z2 := k _ _ hD2 f2
          rw [← rv_set (x := none)] at z2
          exact z2
/-! ### the end of a level, of a transaction -/
def endE (err y : Option Str) (c : Bool) : Option EK := match err, y, c with
  | none, some z, _ => some (.doomed z)
  | none, none, false => some .refused
  | _, _, _ => none
def endLRow (n top : Int) (ok : Bool) (x : Row) : Row := if x.fate = "open" ∧ x.holder = n ∧ x.level = top then (if ok = true then { x with level := top - 1 } else { x with fate := "undone" }) else x
def endTRow (n : Int) (fate : Str) (x : Row) : Row := if x.fate = "open" ∧ x.holder = n then { x with fate := fate } else x
theorem cur_at {α : Type} {f : α → α} {l : List α} {i : Nat} (hi : i ≤ l.length) : ((l.take i).map f ++ l.drop i)[i]? = l[i]? := by
  rw [List.getElem?_append_right (by rw [List.length_map, List.length_take]; omega), List.length_map, List.length_take, Nat.min_eq_left hi, Nat.sub_self, List.getElem?_drop]; rfl
theorem cur_step {α : Type} {f : α → α} {l : List α} {i : Nat} {x : α} (h : l[i]? = some x) : ((l.take i).map f ++ l.drop i).set i (f x) = (l.take (i + 1)).map f ++ l.drop (i + 1) := by
  have hi : i < l.length := (List.getElem?_eq_some_iff.mp h).1
  have e1 : ((l.take i).map f).length = i := by rw [List.length_map, List.length_take]; omega
  rw [List.set_append_right _ _ (by omega), e1, Nat.sub_self, List.take_add_one, h, List.map_append]
  have e2 : l.drop i = x :: l.drop (i + 1) := by
    rw [List.drop_eq_getElem_cons hi]
    congr 1
    exact (List.getElem?_eq_some_iff.mp h).2
  rw [e2]
  simp
theorem cur_same {α : Type} {f : α → α} {l : List α} {i : Nat} {x : α} (h : l[i]? = some x) (e : f x = x) : (l.take i).map f ++ l.drop i = (l.take (i + 1)).map f ++ l.drop (i + 1) := by
  rw [← cur_step h, e]
  have hi : i < l.length := (List.getElem?_eq_some_iff.mp h).1
  have := cur_at (f := f) (Nat.le_of_lt hi)
  rw [h] at this
  obtain ⟨h1, h2⟩ := List.getElem?_eq_some_iff.mp this
  rw [← h2, List.set_getElem_self]
theorem map_ref {ws : List (Addr × Addr)} {i : Nat} {v : V} (h : (ws.map fun w => V.ref w.1)[i]? = some v) : ∃ w, ws[i]? = some w ∧ v = .ref w.1 := by
  rw [List.getElem?_map] at h
  cases e : ws[i]? with
  | none => rw [e] at h; cases h
  | some w =>
    rw [e] at h
    cases h
    exact ⟨w, rfl, rfl⟩
def endLD (D : Db) (err : Option Str) : Db × Option EK := match D.stack with
  | some ⟨n, y :: rs⟩ :: st => ({ D with stack := some ⟨n, rs⟩ :: st, rows := D.rows.map (endLRow n rs.length (err.isNone && y.isNone)) }, endE err y true)
  | _ => (D, none)
def spEndL (a : Ad) : Sp := fun vs H Q E => ∃ L D err n y z rs st, vs = [.ref L.db, oV err] ∧ DB a H L D ∧ Sm D ∧ D.stack = some ⟨n, y :: z :: rs⟩ :: st ∧ outE a (endLD D err) H L Q E
theorem ok_Database_end_level (T : Txt K mg a d) : FnOk P w K mg base (L2N.CX P w) 1 a.Database_end_level d.Database_end_level ["self", "error"] (spEndL a) := by
  refine T.Database_end_level.okXN sc_Database_end_level (fun vs H Q E h => ?_) (fun cdv A outer s H vs Q E hr h => ?_)
  · obtain ⟨L, D, err, n, y, z, rs, st, rfl, _⟩ := h
    rfl
  · obtain ⟨L, D, err, n, y, z, rs, st, rfl, hD, hm, es, k⟩ := h
    have c1 := T.k_Database
    have c2 := T.k_Transaction
    have c3 := T.k_Write
    have n1 := T.na_Database_stack
    have n2 := T.na_Database_rows
    have n3 := T.na_Transaction_reasons
    have n4 := T.na_Transaction_number
    have n5 := T.na_Write_fate
    have n6 := T.na_Write_holder
    have n7 := T.na_Write_level
    have h1 := hD.db
    have h2 := hD.s
    unfold endLD at k
    rw [es] at k
    dsimp only at k
    rcases hD.top with ⟨ts, st', et, es'⟩ | ⟨t, ts, x, st', y', rs', et, es', ex, h4, h5⟩
    · rw [es] at es'
      cases es'
    · rw [es] at es'
      cases es'
      cases ex
      rw [et] at h2
      have e1 := rv_at (f := tV) (x := some t) (l := ts)
      have e2 := rv_pop (f := oV) (x := y) (l := z :: rs)
      have mt : some t ∈ L.ts := by rw [et]; exact List.mem_cons_self
      have hD2 := hD.setQ (rs := z :: rs) et es (by simp)
      have f2 := Fr.set (H := H) (o := .lst (rv oV (z :: rs))) (DbAt.mutQ mt)
      obtain ⟨g3, g4, _⟩ : TxAt a.Transaction _ (some t) (some ⟨n, z :: rs⟩) := by
        have hx := hD2.txs
        rw [et] at hx
        cases hx
        assumption
      have g1 := hD2.db
      dsimp only at g1 g3 g4
      rw [← rv_drop (f := oV) (x := y) (l := z :: rs)] at hD2 f2 g1 g3 g4
      replace k := k.fr f2
      refine ⟨_, (pss_cons (ps_set (i := 2) sc_Database_end_level.nd rfl (Or.inl rfl) (pe_ix ix_list (pe_fld (pv 0) rfl) (pe_un un_neg pe_int) (fun _ _ => rfl)))
  (pss_cons (ps_set (i := 3) sc_Database_end_level.nd rfl (Or.inl rfl) (pe_bm0 PySem.F.plainAttrs_list PySem.F.slot_list_pop PySem.F.type_list_pop mt_pop (pe_fld (pv 2) rfl)))
  (pss_cons (ps_set (i := 4) sc_Database_end_level.nd rfl (Or.inl rfl) (pe_callB call_len_seq (by rfl) T.n_len PySem.boot_len (pa_cons (pe_fld (pv 2) rfl) pa_nil)))
  (pss_cons (ps_for (passes_of rfl) rfl (pi_list (pe_fld (pv 0) rfl)) (pg_name (i := 5) sc_Database_end_level.nd rfl (Or.inl rfl))
  (pss_one (ps_if (PW.pt (pw_and (pt_cmpR op_eq (pe_fld (pv 5) rfl) pe_str (nomark _)) (pw_and (pt_cmpR op_eq (pe_fld (pv 5) rfl) (pe_fld (pv 2) rfl) (nomark _)) (pw_and1 (pt_cmpR op_eq (pe_fld (pv 5) rfl) (pv 4) (nomark _)))))) (pss_one (ps_if (PW.pt (pw_and (pt_cmpR op_isN (pv 1) pe_non (nomark _)) (pw_and1 (pt_cmpR op_isN (pv 3) pe_non (nomark _))))) (pss_one (ps_fld (pv 5) (pe_op op_sub (pv 4) pe_int) rfl)) (pss_one (ps_fld (pv 5) pe_str rfl)))) pss_nil)))
  (pss_one (ps_if (PW.pt (pw_and (pt_cmpR op_isN (pv 1) pe_non (nomark _)) (pw_and1 (pt_cmpR op_notN (pv 3) pe_non (nomark _))))) (pss_one (ps_raise rfl (takes_of rfl rfl rfl rfl) (pmk_err T.e_Doomed T.g_Doomed T.n_super hr (pa_cons (pv 3) pa_nil)))) pss_nil)))))), ?_⟩
      dsimp only [cxOf]
      walk_at "rd"
      generalize upd H t.q (.lst (rv oV (y :: z :: rs)).dropLast) = H1 at hD2 f2 g1 g3 g4 k ⊢
      have ltop : (((rv oV (y :: z :: rs)).dropLast.length : Nat) : Int) = ((z :: rs).length : Int) := by rw [rv_drop, rv_len]
      rw [ltop]
      refine ⟨⟨_, SqL.of hD2.r⟩, ?_⟩
      refine for_list (xs := L.ws.map fun w => V.ref w.1) (fun i σ H' => ∃ v5, DB a H' L { D with stack := some ⟨n, z :: rs⟩ :: st, rows := (D.rows.take i).map (endLRow n ((z :: rs).length : Int) (err.isNone && y.isNone)) ++ D.rows.drop i } ∧ Fr H1 H' L L ∧ σ = [some (.ref L.db), some (oV err), some (.ref t.t), some (oV y), some (.int ((z :: rs).length : Int)), v5]) ?_ ?_ ?_ ?_
      · exact ⟨none, hD2, Fr.refl, rfl⟩
      · rintro i σ H' _ ⟨v5, hI, _, rfl⟩
        exact SqL.of hI.r
      · rintro i v σ H' hv ⟨v5, hI, fI, rfl⟩
        obtain ⟨w, hw, rfl⟩ := map_ref hv
        have hlw : L.ws.length = D.rows.length := hD.rows.len
        have hi : i < D.rows.length := by rw [← hlw]; exact (List.getElem?_eq_some_iff.mp hw).1
        obtain ⟨x, hx, hxw⟩ := hI.rows.get hw
        dsimp only at hx
        rw [cur_at (Nat.le_of_lt hi)] at hx
        have hxw : H' w.1 = some (.ins a.Write w.2 (rwF x)) := hxw
        have mw : Mut L w.1 := DbAt.mutW (List.mem_of_getElem? hw)
        obtain ⟨j3, j4, _⟩ : TxAt a.Transaction H' (some t) (some ⟨n, z :: rs⟩) := by
          have hx := hI.txs
          rw [et] at hx
          cases hx
          assumption
        dsimp only at j3 j4
        have fin1 : endLRow n ((z :: rs).length : Int) (err.isNone && y.isNone) x = x → DB a H' L { D with stack := some ⟨n, z :: rs⟩ :: st, rows := (D.rows.take (i + 1)).map (endLRow n ((z :: rs).length : Int) (err.isNone && y.isNone)) ++ D.rows.drop (i + 1) } := fun e => by
          rw [← cur_same hx e]; exact hI
        have fin2 : DB a (upd H' w.1 (.ins a.Write w.2 (rwF (endLRow n ((z :: rs).length : Int) (err.isNone && y.isNone) x)))) L { D with stack := some ⟨n, z :: rs⟩ :: st, rows := (D.rows.take (i + 1)).map (endLRow n ((z :: rs).length : Int) (err.isNone && y.isNone)) ++ D.rows.drop (i + 1) } := by
          rw [← cur_step hx]; exact hI.setRow hw
        walk_at "rd"
        refine ite2 (fun b1 => ?_) (fun b1 => ?_)
        · have q1 : x.fate = "open" := V.str.inj (of_decide_eq_true b1)
          walk_at "rd"
          refine ite2 (fun b2 => ?_) (fun b2 => ?_)
          · have q2 : x.holder = n := V.int.inj (of_decide_eq_true b2)
            walk_at "rd"
            refine ite2 (fun b3 => ?_) (fun b3 => ?_)
            · have q3 : x.level = ((z :: rs).length : Int) := V.int.inj (of_decide_eq_true b3)
              have er : endLRow n ((z :: rs).length : Int) (err.isNone && y.isNone) x = if (err.isNone && y.isNone) = true then { x with level := ((z :: rs).length : Int) - 1 } else { x with fate := "undone" } := if_pos ⟨q1, q2, q3⟩
              rw [er] at fin2
              cases err with
              | some e =>
                walk_at "rd"
                exact ⟨_, fin2, fI.trans (Fr.set mw), rfl⟩
              | none =>
                cases y with
                | some y =>
                  walk_at "rd"
                  exact ⟨_, fin2, fI.trans (Fr.set mw), rfl⟩
                | none =>
                  walk_at "rd"
                  exact ⟨_, fin2, fI.trans (Fr.set mw), rfl⟩
            · have q3 : ¬ x.level = ((z :: rs).length : Int) := fun e => b3 (decide_eq_true (congrArg V.int e))
              exact ⟨_, fin1 (if_neg fun c => q3 c.2.2), fI, rfl⟩
          · have q2 : ¬ x.holder = n := fun e => b2 (decide_eq_true (congrArg V.int e))
            exact ⟨_, fin1 (if_neg fun c => q2 c.2.1), fI, rfl⟩
        · have q1 : ¬ x.fate = "open" := fun e => b1 (decide_eq_true (congrArg V.str e))
          exact ⟨_, fin1 (if_neg fun c => q1 c.1), fI, rfl⟩
      · rintro σ H' ⟨v5, hI, fI, rfl⟩
        have hlw : L.ws.length = D.rows.length := hD.rows.len
        rw [List.length_map, hlw, List.take_length, List.drop_length, List.append_nil] at hI
        have k0 := k _ _ hI fI
        cases err with
        | some e =>
          walk_at "rd"
          cases y <;> exact k0
        | none =>
          cases y with
          | none =>
            walk_at "rd"
            exact k0
          | some y =>
            walk_at "rd"
            exact k0
def endTD (D : Db) (err : Option Str) (c : Bool) : Db × Option EK := match D.stack with
  | some ⟨n, y :: _⟩ :: st => ({ D with stack := st, rows := D.rows.map (endTRow n (if (err.isNone && y.isNone && c) = true then "kept" else "undone")) }, endE err y c)
  | _ => (D, none)
def spEndT (a : Ad) : Sp := fun vs H Q E => ∃ L D err c n y rs st, vs = [.ref L.db, oV err, .bl c] ∧ DB a H L D ∧ Sm D ∧ D.stack = some ⟨n, y :: rs⟩ :: st ∧ st ≠ [] ∧ outE a (endTD D err c) H L Q E
theorem ok_Database_end_transaction (T : Txt K mg a d) : FnOk P w K mg base (L2N.CX P w) 1 a.Database_end_transaction d.Database_end_transaction ["self", "error", "commits"] (spEndT a) := by
  refine T.Database_end_transaction.okXN sc_Database_end_transaction (fun vs H Q E h => ?_) (fun cdv A outer s H vs Q E hr h => ?_)
  · obtain ⟨L, D, err, c, n, y, rs, st, rfl, _⟩ := h
    rfl
  · obtain ⟨L, D, err, c, n, y, rs, st, rfl, hD, hm, es, hst, k⟩ := h
    have c1 := T.k_Database
    have c2 := T.k_Transaction
    have c3 := T.k_Write
    have n1 := T.na_Database_stack
    have n2 := T.na_Database_rows
    have n3 := T.na_Transaction_reasons
    have n4 := T.na_Transaction_number
    have n5 := T.na_Write_fate
    have n6 := T.na_Write_holder
    have h1 := hD.db
    have h2 := hD.s
    unfold endTD at k
    rw [es] at k
    dsimp only at k
    rcases hD.top with ⟨ts, st', et, es'⟩ | ⟨t, ts, x, st', y', rs', et, es', ex, h4, h5⟩
    · rw [es] at es'
      cases es'
    · rw [es] at es'
      cases es'
      cases ex
      rw [et] at h2
      have e1 := rv_pop (f := tV) (x := some t) (l := ts)
      have e2 := rv_at (f := oV) (x := y) (l := rs)
      have mt : some t ∈ L.ts := by rw [et]; exact List.mem_cons_self
      have hD2 := hD.popS et es hst
      have f2 := Fr.popS (H := H) (o := .lst (rv tV ts)) et
      have g1 := hD2.db
      have g3 := upd_oth (o := .lst (rv tV ts)) (ins_ne h4 hD.s) h4
      have g4 := upd_oth (o := .lst (rv tV ts)) ((hD.qn t mt).2.1) h5
      dsimp only at g1 g3 g4
      rw [← rv_drop (f := tV) (x := some t) (l := ts)] at hD2 f2 g1 g3 g4
      replace k := k.fr f2
      have ntw : ∀ w ∈ L.ws, t.t ≠ w.1 := fun w hw => by
        obtain ⟨x, hx⟩ := hD.row hw
        exact row_ne_tx hD hx mt
      refine ⟨_, (pss_cons (ps_set (i := 3) sc_Database_end_transaction.nd rfl (Or.inl rfl) (pe_bm0 PySem.F.plainAttrs_list PySem.F.slot_list_pop PySem.F.type_list_pop mt_pop (pe_fld (pv 0) rfl)))
  (pss_cons (ps_set (i := 4) sc_Database_end_transaction.nd rfl (Or.inl rfl) (pe_ix ix_list (pe_fld (pv 3) rfl) (pe_un un_neg pe_int) (fun _ _ => rfl)))
  (pss_cons (ps_set (i := 5) sc_Database_end_transaction.nd rfl (Or.inl rfl) (pe_ifExp (PW.pt (pw_and (pt_cmpR op_isN (pv 1) pe_non (nomark _)) (pw_and (pt_cmpR op_isN (pv 4) pe_non (nomark _)) (pw_and1 (pt_val (pv 2)))))) pe_str pe_str))
  (pss_cons (ps_for (passes_of rfl) rfl (pi_list (pe_fld (pv 0) rfl)) (pg_name (i := 6) sc_Database_end_transaction.nd rfl (Or.inl rfl))
  (pss_one (ps_if (PW.pt (pw_and (pt_cmpR op_eq (pe_fld (pv 6) rfl) pe_str (nomark _)) (pw_and1 (pt_cmpR op_eq (pe_fld (pv 6) rfl) (pe_fld (pv 3) rfl) (nomark _))))) (pss_one (ps_fld (pv 6) (pv 5) rfl)) pss_nil)))
  (pss_cons (ps_if (PW.pt (pw_and (pt_cmpR op_isN (pv 1) pe_non (nomark _)) (pw_and1 (pt_cmpR op_notN (pv 4) pe_non (nomark _))))) (pss_one (ps_raise rfl (takes_of rfl rfl rfl rfl) (pmk_err T.e_Doomed T.g_Doomed T.n_super hr (pa_cons (pv 4) pa_nil)))) pss_nil)
  (pss_one (ps_if (PW.pt (pw_and (pt_cmpR op_isN (pv 1) pe_non (nomark _)) (pw_and1 (pt_not (pt_val (pv 2)))))) (pss_one (ps_raise rfl (takes_of rfl rfl rfl rfl) (pmk_err0 T.e_Refused T.g_Refused T.n_super hr))) pss_nil))))))), ?_⟩
      dsimp only [cxOf]
      walk_at "rd"
      generalize upd H L.s (.lst (rv tV (some t :: ts)).dropLast) = H1 at hD2 f2 g1 g3 g4 k ⊢
      have hlw : L.ws.length = D.rows.length := hD.rows.len
      cases err with
      | some e =>
        walk_at "rd"
        refine ⟨⟨_, SqL.of hD2.r⟩, ?_⟩
        refine for_list (xs := L.ws.map fun w => V.ref w.1) (fun i σ H' => ∃ v6, DB a H' { L with ts := ts } { D with stack := st, rows := (D.rows.take i).map (endTRow n "undone") ++ D.rows.drop i } ∧ Fr H1 H' { L with ts := ts } { L with ts := ts } ∧ H' t.t = some (.ins a.Transaction t.dt (txF n t.q)) ∧ σ = [some (.ref L.db), some (oV (some e)), some (.bl c), some (.ref t.t), some (oV y), some (.str "undone"), v6]) ?_ ?_ ?_ ?_
        · exact ⟨none, hD2, Fr.refl, g3, rfl⟩
        · rintro i σ H' _ ⟨v6, hI, _, _, rfl⟩
          exact SqL.of hI.r
        · rintro i v σ H' hv ⟨v6, hI, fI, j3, rfl⟩
          obtain ⟨w, hw, rfl⟩ := map_ref hv
          have hi : i < D.rows.length := by rw [← hlw]; exact (List.getElem?_eq_some_iff.mp hw).1
          obtain ⟨x, hx, hxw⟩ := hI.rows.get hw
          dsimp only at hx
          rw [cur_at (Nat.le_of_lt hi)] at hx
          have hxw : H' w.1 = some (.ins a.Write w.2 (rwF x)) := hxw
          have wm := List.mem_of_getElem? hw
          have mw : Mut { L with ts := ts } w.1 := DbAt.mutW (L := { L with ts := ts }) wm
          have fin1 : endTRow n "undone" x = x → DB a H' { L with ts := ts } { D with stack := st, rows := (D.rows.take (i + 1)).map (endTRow n "undone") ++ D.rows.drop (i + 1) } := fun e => by
            rw [← cur_same hx e]; exact hI
          have fin2 : DB a (upd H' w.1 (.ins a.Write w.2 (rwF (endTRow n "undone" x)))) { L with ts := ts } { D with stack := st, rows := (D.rows.take (i + 1)).map (endTRow n "undone") ++ D.rows.drop (i + 1) } := by
            rw [← cur_step hx]; exact hI.setRow (L := { L with ts := ts }) hw
          walk_at "rd"
          refine ite2 (fun b1 => ?_) (fun b1 => ?_)
          · have q1 : x.fate = "open" := V.str.inj (of_decide_eq_true b1)
            walk_at "rd"
            refine ite2 (fun b2 => ?_) (fun b2 => ?_)
            · have q2 : x.holder = n := V.int.inj (of_decide_eq_true b2)
              have er : endTRow n "undone" x = { x with fate := "undone" } := if_pos ⟨q1, q2⟩
              rw [er] at fin2
              walk_at "rd"
              exact ⟨_, fin2, fI.trans (Fr.set mw), upd_oth (ntw w wm) j3, rfl⟩
            · have q2 : ¬ x.holder = n := fun e => b2 (decide_eq_true (congrArg V.int e))
              exact ⟨_, fin1 (if_neg fun c => q2 c.2), fI, j3, rfl⟩
          · have q1 : ¬ x.fate = "open" := fun e => b1 (decide_eq_true (congrArg V.str e))
            exact ⟨_, fin1 (if_neg fun c => q1 c.1), fI, j3, rfl⟩
        · rintro σ H' ⟨v6, hI, fI, j3, rfl⟩
          rw [List.length_map, hlw, List.take_length, List.drop_length, List.append_nil] at hI
          have k0 := k _ _ hI fI
          walk_at "rd"
          cases y <;> exact k0
      | none =>
        cases y with
        | some y =>
          walk_at "rd"
          refine ⟨⟨_, SqL.of hD2.r⟩, ?_⟩
          refine for_list (xs := L.ws.map fun w => V.ref w.1) (fun i σ H' => ∃ v6, DB a H' { L with ts := ts } { D with stack := st, rows := (D.rows.take i).map (endTRow n "undone") ++ D.rows.drop i } ∧ Fr H1 H' { L with ts := ts } { L with ts := ts } ∧ H' t.t = some (.ins a.Transaction t.dt (txF n t.q)) ∧ σ = [some (.ref L.db), some (oV none), some (.bl c), some (.ref t.t), some (oV (some y)), some (.str "undone"), v6]) ?_ ?_ ?_ ?_
          · exact ⟨none, hD2, Fr.refl, g3, rfl⟩
          · rintro i σ H' _ ⟨v6, hI, _, _, rfl⟩
            exact SqL.of hI.r
          · rintro i v σ H' hv ⟨v6, hI, fI, j3, rfl⟩
            obtain ⟨w, hw, rfl⟩ := map_ref hv
            have hi : i < D.rows.length := by rw [← hlw]; exact (List.getElem?_eq_some_iff.mp hw).1
            obtain ⟨x, hx, hxw⟩ := hI.rows.get hw
            dsimp only at hx
            rw [cur_at (Nat.le_of_lt hi)] at hx
            have hxw : H' w.1 = some (.ins a.Write w.2 (rwF x)) := hxw
            have wm := List.mem_of_getElem? hw
            have mw : Mut { L with ts := ts } w.1 := DbAt.mutW (L := { L with ts := ts }) wm
            have fin1 : endTRow n "undone" x = x → DB a H' { L with ts := ts } { D with stack := st, rows := (D.rows.take (i + 1)).map (endTRow n "undone") ++ D.rows.drop (i + 1) } := fun e => by
              rw [← cur_same hx e]; exact hI
            have fin2 : DB a (upd H' w.1 (.ins a.Write w.2 (rwF (endTRow n "undone" x)))) { L with ts := ts } { D with stack := st, rows := (D.rows.take (i + 1)).map (endTRow n "undone") ++ D.rows.drop (i + 1) } := by
              rw [← cur_step hx]; exact hI.setRow (L := { L with ts := ts }) hw
            walk_at "rd"
            refine ite2 (fun b1 => ?_) (fun b1 => ?_)
            · have q1 : x.fate = "open" := V.str.inj (of_decide_eq_true b1)
              walk_at "rd"
              refine ite2 (fun b2 => ?_) (fun b2 => ?_)
              · have q2 : x.holder = n := V.int.inj (of_decide_eq_true b2)
                have er : endTRow n "undone" x = { x with fate := "undone" } := if_pos ⟨q1, q2⟩
                rw [er] at fin2
                walk_at "rd"
                exact ⟨_, fin2, fI.trans (Fr.set mw), upd_oth (ntw w wm) j3, rfl⟩
              · have q2 : ¬ x.holder = n := fun e => b2 (decide_eq_true (congrArg V.int e))
                exact ⟨_, fin1 (if_neg fun c => q2 c.2), fI, j3, rfl⟩
            · have q1 : ¬ x.fate = "open" := fun e => b1 (decide_eq_true (congrArg V.str e))
              exact ⟨_, fin1 (if_neg fun c => q1 c.1), fI, j3, rfl⟩
          · rintro σ H' ⟨v6, hI, fI, j3, rfl⟩
            rw [List.length_map, hlw, List.take_length, List.drop_length, List.append_nil] at hI
            have k0 := k _ _ hI fI
            walk_at "rd"
            exact k0
        | none =>
          cases c with
          | true =>
            walk_at "rd"
            refine ⟨⟨_, SqL.of hD2.r⟩, ?_⟩
            refine for_list (xs := L.ws.map fun w => V.ref w.1) (fun i σ H' => ∃ v6, DB a H' { L with ts := ts } { D with stack := st, rows := (D.rows.take i).map (endTRow n "kept") ++ D.rows.drop i } ∧ Fr H1 H' { L with ts := ts } { L with ts := ts } ∧ H' t.t = some (.ins a.Transaction t.dt (txF n t.q)) ∧ σ = [some (.ref L.db), some (oV none), some (.bl true), some (.ref t.t), some (oV none), some (.str "kept"), v6]) ?_ ?_ ?_ ?_
            · exact ⟨none, hD2, Fr.refl, g3, rfl⟩
            · rintro i σ H' _ ⟨v6, hI, _, _, rfl⟩
              exact SqL.of hI.r
            · rintro i v σ H' hv ⟨v6, hI, fI, j3, rfl⟩
              obtain ⟨w, hw, rfl⟩ := map_ref hv
              have hi : i < D.rows.length := by rw [← hlw]; exact (List.getElem?_eq_some_iff.mp hw).1
              obtain ⟨x, hx, hxw⟩ := hI.rows.get hw
              dsimp only at hx
              rw [cur_at (Nat.le_of_lt hi)] at hx
              have hxw : H' w.1 = some (.ins a.Write w.2 (rwF x)) := hxw
              have wm := List.mem_of_getElem? hw
              have mw : Mut { L with ts := ts } w.1 := DbAt.mutW (L := { L with ts := ts }) wm
              have fin1 : endTRow n "kept" x = x → DB a H' { L with ts := ts } { D with stack := st, rows := (D.rows.take (i + 1)).map (endTRow n "kept") ++ D.rows.drop (i + 1) } := fun e => by
                rw [← cur_same hx e]; exact hI
              have fin2 : DB a (upd H' w.1 (.ins a.Write w.2 (rwF (endTRow n "kept" x)))) { L with ts := ts } { D with stack := st, rows := (D.rows.take (i + 1)).map (endTRow n "kept") ++ D.rows.drop (i + 1) } := by
                rw [← cur_step hx]; exact hI.setRow (L := { L with ts := ts }) hw
              walk_at "rd"
              refine ite2 (fun b1 => ?_) (fun b1 => ?_)
              · have q1 : x.fate = "open" := V.str.inj (of_decide_eq_true b1)
                walk_at "rd"
                refine ite2 (fun b2 => ?_) (fun b2 => ?_)
                · have q2 : x.holder = n := V.int.inj (of_decide_eq_true b2)
                  have er : endTRow n "kept" x = { x with fate := "kept" } := if_pos ⟨q1, q2⟩
                  rw [er] at fin2
                  walk_at "rd"
                  exact ⟨_, fin2, fI.trans (Fr.set mw), upd_oth (ntw w wm) j3, rfl⟩
                · have q2 : ¬ x.holder = n := fun e => b2 (decide_eq_true (congrArg V.int e))
                  exact ⟨_, fin1 (if_neg fun c => q2 c.2), fI, j3, rfl⟩
              · have q1 : ¬ x.fate = "open" := fun e => b1 (decide_eq_true (congrArg V.str e))
                exact ⟨_, fin1 (if_neg fun c => q1 c.1), fI, j3, rfl⟩
            · rintro σ H' ⟨v6, hI, fI, j3, rfl⟩
              rw [List.length_map, hlw, List.take_length, List.drop_length, List.append_nil] at hI
              have k0 := k _ _ hI fI
              walk_at "rd"
              exact k0
          | false =>
            walk_at "rd"
            refine ⟨⟨_, SqL.of hD2.r⟩, ?_⟩
            refine for_list (xs := L.ws.map fun w => V.ref w.1) (fun i σ H' => ∃ v6, DB a H' { L with ts := ts } { D with stack := st, rows := (D.rows.take i).map (endTRow n "undone") ++ D.rows.drop i } ∧ Fr H1 H' { L with ts := ts } { L with ts := ts } ∧ H' t.t = some (.ins a.Transaction t.dt (txF n t.q)) ∧ σ = [some (.ref L.db), some (oV none), some (.bl false), some (.ref t.t), some (oV none), some (.str "undone"), v6]) ?_ ?_ ?_ ?_
            · exact ⟨none, hD2, Fr.refl, g3, rfl⟩
            · rintro i σ H' _ ⟨v6, hI, _, _, rfl⟩
              exact SqL.of hI.r
            · rintro i v σ H' hv ⟨v6, hI, fI, j3, rfl⟩
              obtain ⟨w, hw, rfl⟩ := map_ref hv
              have hi : i < D.rows.length := by rw [← hlw]; exact (List.getElem?_eq_some_iff.mp hw).1
              obtain ⟨x, hx, hxw⟩ := hI.rows.get hw
              dsimp only at hx
              rw [cur_at (Nat.le_of_lt hi)] at hx
              have hxw : H' w.1 = some (.ins a.Write w.2 (rwF x)) := hxw
              have wm := List.mem_of_getElem? hw
              have mw : Mut { L with ts := ts } w.1 := DbAt.mutW (L := { L with ts := ts }) wm
              have fin1 : endTRow n "undone" x = x → DB a H' { L with ts := ts } { D with stack := st, rows := (D.rows.take (i + 1)).map (endTRow n "undone") ++ D.rows.drop (i + 1) } := fun e => by
                rw [← cur_same hx e]; exact hI
              have fin2 : DB a (upd H' w.1 (.ins a.Write w.2 (rwF (endTRow n "undone" x)))) { L with ts := ts } { D with stack := st, rows := (D.rows.take (i + 1)).map (endTRow n "undone") ++ D.rows.drop (i + 1) } := by
                rw [← cur_step hx]; exact hI.setRow (L := { L with ts := ts }) hw
              walk_at "rd"
              refine ite2 (fun b1 => ?_) (fun b1 => ?_)
              · have q1 : x.fate = "open" := V.str.inj (of_decide_eq_true b1)
                walk_at "rd"
                refine ite2 (fun b2 => ?_) (fun b2 => ?_)
                · have q2 : x.holder = n := V.int.inj (of_decide_eq_true b2)
                  have er : endTRow n "undone" x = { x with fate := "undone" } := if_pos ⟨q1, q2⟩
                  rw [er] at fin2
                  walk_at "rd"
                  exact ⟨_, fin2, fI.trans (Fr.set mw), upd_oth (ntw w wm) j3, rfl⟩
                · have q2 : ¬ x.holder = n := fun e => b2 (decide_eq_true (congrArg V.int e))
                  exact ⟨_, fin1 (if_neg fun c => q2 c.2), fI, j3, rfl⟩
              · have q1 : ¬ x.fate = "open" := fun e => b1 (decide_eq_true (congrArg V.str e))
                exact ⟨_, fin1 (if_neg fun c => q1 c.1), fI, j3, rfl⟩
            · rintro σ H' ⟨v6, hI, fI, j3, rfl⟩
              rw [List.length_map, hlw, List.take_length, List.drop_length, List.append_nil] at hI
              have k0 := k _ _ hI fI
              walk_at "rd"
              exact k0
/-! ### leave -/
theorem bd_leave0 (T : Txt K mg a d) : ∃ ds, Vals [V.non, .bl true] ds ∧ Binds K d.Database_leave ["self", "error", "commits"] ds :=
  T.Database_leave.binds (ps := ["self", "error", "commits"]) 1 0 (by simp) rfl (fun T D doc pm an cdv ct us its ks hu hi hk => match us, hu, its, hi, ks, hk with | [_], _, [_], _, [_], _ => ⟨_, rfl, _, _, _, _, _, _, rfl, rfl, rfl⟩) (by simp)
theorem bd_leave1 (T : Txt K mg a d) : ∃ ds, Vals [V.bl true] ds ∧ Binds K d.Database_leave ["self", "error", "commits"] ds :=
  T.Database_leave.binds (ps := ["self", "error", "commits"]) 2 1 (by simp) rfl (fun T D doc pm an cdv ct us its ks hu hi hk => match us, hu, its, hi, ks, hk with | [_, _], _, [_], _, [_], _ => ⟨_, rfl, _, _, _, _, _, _, rfl, rfl, rfl⟩) (by simp)
/-- the blocks and the transactions fit -/
inductive Wf : List Str → List (Option Tx) → Prop
  | nil : Wf [] [none]
  | plain {es st} (h : Wf es (none :: st)) : Wf ("plain" :: es) (none :: st)
  | base {es st n y} (h : Wf es st) : Wf ("base" :: es) (some ⟨n, [y]⟩ :: st)
  | level {es st n y z rs} (h : Wf es (some ⟨n, z :: rs⟩ :: st)) : Wf ("level" :: es) (some ⟨n, y :: z :: rs⟩ :: st)
  | joined {es st n y rs} (h : Wf es (some ⟨n, y :: rs⟩ :: st)) : Wf ("joined" :: es) (some ⟨n, y :: rs⟩ :: st)
  | outside {es st x} (h : Wf es (some x :: st)) : Wf ("outside" :: es) (none :: some x :: st)
theorem Wf.ne {es : List Str} {st : List (Option Tx)} (h : Wf es st) : st ≠ [] := by cases h <;> simp
def leaveW (D : Db) (err : Option Str) (c : Bool) : Db × Option EK := match D.entered with
  | [] => (D, some .noblock)
  | e :: es =>
    if e = "outside" then ({ D with entered := es, stack := D.stack.tail }, none) else
    if e = "joined" then ((match err with
      | some z => doomD { D with entered := es } z
      | none => { D with entered := es }), none) else
    if e = "level" then endLD { D with entered := es } err else
    if e = "base" then endTD { D with entered := es } err c else
    ({ D with entered := es }, none)
def leaveD (D : Db) (err : Option Str) (c : Bool) : Db × Option EK := if (D.entered.length : Int) ≤ D.floor then (D, some .noblock) else leaveW D err c
def leaveV (D : Db) (v : V) (c : Bool) : Db × Option EK := match v with
  | .non => leaveD D none c
  | .str z => if wordS z = true then leaveD D (some z) c else if (D.entered.length : Int) ≤ D.floor then (D, some .noblock) else (D, some (.badword v))
  | v => if (D.entered.length : Int) ≤ D.floor then (D, some .noblock) else (D, some (.badword v))
theorem leaveV_o {D : Db} {err : Option Str} {c : Bool} (h : ∀ z, err = some z → IsWord z) : leaveV D (oV err) c = leaveD D err c := by
  cases err with
  | none => rfl
  | some z =>
    show (if wordS z = true then _ else _) = _
    rw [if_pos (h z rfl).ok]
def spLeave (a : Ad) : Sp := fun vs H Q E => ∃ L D v c, vs = [.ref L.db, v, .bl c] ∧ Thing H v ∧ DB a H L D ∧ Sm D ∧ 0 ≤ D.floor ∧ Wf D.entered D.stack ∧ outE a (leaveV D v c) H L Q E
theorem ok_Database_leave (T : Txt K mg a d) : FnOk P w K mg base (L2N.CX P w) 3 a.Database_leave d.Database_leave ["self", "error", "commits"] (spLeave a) := by
  have G_is_word : FnOk P w K mg base CX0 1 a.is_word d.is_word ["thing"] spIsWord := ok_is_word T
  have G_Database_doom : FnOk P w K mg base (L2N.CX P w) 2 a.Database_doom d.Database_doom ["self", "first"] (spDoom a) := ok_Database_doom T
  have G_Database_end_level : FnOk P w K mg base (L2N.CX P w) 1 a.Database_end_level d.Database_end_level ["self", "error"] (spEndL a) := ok_Database_end_level T
  have G_Database_end_transaction : FnOk P w K mg base (L2N.CX P w) 1 a.Database_end_transaction d.Database_end_transaction ["self", "error", "commits"] (spEndT a) := ok_Database_end_transaction T
  refine T.Database_leave.ok sc_Database_leave (fun vs H Q E h => ?_) (fun cdv A outer s H vs Q E hr h => ?_)
  · obtain ⟨L, D, v, c, rfl, _⟩ := h
    rfl
  · obtain ⟨L, D, v, c, rfl, tv, hD, hm, hfl, hw, k⟩ := h
    have c1 := T.k_Database
    have n1 := T.na_Database_stack
    have n2 := T.na_Database_entered
    have n3 := T.na_Database_floor
    have h1 := hD.db
    have h2 := hD.s
    have h3 := hD.e
    refine ⟨_, (pss_cons (ps_if (pt_cmpR op_le (pe_callB call_len_seq (by rfl) T.n_len PySem.boot_len (pa_cons (pe_fld (pv 0) rfl) pa_nil)) (pe_fld (pv 0) rfl) (nomark _)) (pss_one (ps_raise rfl (takes_of rfl rfl rfl rfl) (pmk_err0 T.e_NoBlock T.g_NoBlock T.n_super hr))) pss_nil)
  (pss_cons (ps_if (PW.pt (pw_and (pt_cmpR op_notN (pv 1) pe_non (nomark _)) (pw_and1 (pt_not (pt_val (pe_call G_is_word (hr.mono (by decide)) (by rfl) T.g_is_word T.is_word.kp T.b_is_word .nil pass0 (pa_cons (pv 1) pa_nil))))))) (pss_one (ps_raise rfl (takes_of rfl rfl rfl rfl) (pmk_err T.e_BadWord T.g_BadWord T.n_super hr (pa_cons (pv 1) pa_nil)))) pss_nil)
  (pss_cons (ps_set (i := 3) sc_Database_leave.nd rfl (Or.inl rfl) (pe_bm0 PySem.F.plainAttrs_list PySem.F.slot_list_pop PySem.F.type_list_pop mt_pop (pe_fld (pv 0) rfl)))
  (pss_one (ps_if (pt_cmpR op_eq (pv 3) pe_str (nomark _)) (pss_one (ps_expr (pe_bm0 PySem.F.plainAttrs_list PySem.F.slot_list_pop PySem.F.type_list_pop mt_pop (pe_fld (pv 0) rfl)))) (pss_one (ps_if (PW.pt (pw_and (pt_cmpR op_eq (pv 3) pe_str (nomark _)) (pw_and1 (pt_cmpR op_notN (pv 1) pe_non (nomark _))))) (pss_one (ps_expr (pe_meth (pv 0) T.k_Database T.m_Database_doom G_Database_doom (hr.mono (by decide)) (bd_doom T) .nil (passes_call (takes_of rfl rfl rfl rfl) (fun _ _ _ _ h => h)) (pa_cons (pv 1) pa_nil)))) (pss_one (ps_if (pt_cmpR op_eq (pv 3) pe_str (nomark _)) (pss_one (ps_expr (pe_meth (pv 0) T.k_Database T.m_Database_end_level G_Database_end_level (hr.mono (by decide)) T.b_Database_end_level .nil (passes_call (takes_of rfl rfl rfl rfl) (fun _ _ _ _ h => h)) (pa_cons (pv 1) pa_nil)))) (pss_one (ps_if (pt_cmpR op_eq (pv 3) pe_str (nomark _)) (pss_one (ps_expr (pe_meth (pv 0) T.k_Database T.m_Database_end_transaction G_Database_end_transaction (hr.mono (by decide)) T.b_Database_end_transaction .nil (passes_call (takes_of rfl rfl rfl rfl) (fun _ _ _ _ h => h)) (pa_cons (pv 1) (pa_cons (pv 2) pa_nil))))) pss_nil))))))))))), ?_⟩
    dsimp only [cxOf]
    walk_at "rd"
    rw [rv_len]
    by_cases hfl2 : (D.entered.length : Int) ≤ D.floor
    · have k1 : outE a (D, some .noblock) H L Q E := by
        have e : leaveV D v c = (D, some .noblock) := by
          unfold leaveV leaveD
          repeat' split
          all_goals first | rfl | contradiction
        rw [e] at k
        exact k
      rw [decide_eq_true hfl2]
      refine iteT ?_
      walk_at "rd"
      exact k1 H L hD Fr.refl
    rw [decide_eq_false hfl2]
    refine iteF ?_
    have go : ∀ err : Option Str, (∀ z, err = some z → IsWord z) → v = oV err → outE a (leaveW D err c) H L Q E := fun err he hv => by
      subst hv
      rw [leaveV_o he] at k
      unfold leaveD at k
      rw [if_neg hfl2] at k
      exact k
    cases hent : D.entered with
    | nil =>
      rw [hent] at hfl2
      exact absurd hfl hfl2
    | cons e es =>
      rw [hent] at h3 hw
      have e2 := rv_pop (f := V.str) (x := e) (l := es)
      have hw2 := hw
      generalize est : D.stack = stk at hw2
      have hD2 := hD.setE es
      have f2 := Fr.set (H := H) (L := L) (o := .lst (rv V.str es)) DbAt.mutE
      have hm2 : Sm { D with entered := es } := ⟨by have := hm.e; rw [hent, List.length_cons] at this; exact Nat.le_of_succ_le this, hm.s, hm.r, hm.n⟩
      have g1 := hD2.db
      dsimp only at g1
      rw [← rv_drop (f := V.str) (x := e) (l := es)] at hD2 f2 g1
      have kk : ∀ err : Option Str, (∀ z, err = some z → IsWord z) → v = oV err → outE a (if e = "outside" then ({ D with entered := es, stack := D.stack.tail }, none) else if e = "joined" then ((match err with
          | some z => doomD { D with entered := es } z
          | none => { D with entered := es }), none) else if e = "level" then endLD { D with entered := es } err else if e = "base" then endTD { D with entered := es } err c else ({ D with entered := es }, none)) H L Q E := fun err he hv => by
        have := go err he hv
        unfold leaveW at this
        rw [hent] at this
        exact this
      cases hv0 : decide (v = .non) with
      | true =>
        cases (of_decide_eq_true hv0 : v = .non)
        have k0 := kk none (fun z e => nomatch e) rfl
        walk_at "rd"
        generalize upd H L.e (.lst (rv V.str (e :: es)).dropLast) = H2 at hD2 f2 g1 ⊢
        cases hw2 with
        | plain h =>
          walk_at "rd"
          have z := k0 _ _ hD2 f2
          exact z
        | outside h =>
          have et := hD2.top
          rcases et with ⟨ts, st', et, es'⟩ | ⟨t, ts, x, st', y', rs', et, es', ex, h4, h5⟩
          · dsimp only at es'
            rw [est] at es'
            cases es'
            have g2 := hD2.s
            rw [et] at g2
            have e3 := rv_pop (f := tV) (x := none) (l := ts)
            walk_at "rd"
            have hD3 := hD2.popS et est (by simp)
            have f3 := Fr.popS (H := H2) (o := .lst (rv tV ts)) et
            rw [← rv_drop (f := tV) (x := none) (l := ts)] at hD3 f3
            rw [est] at k0
            exact k0 _ _ hD3 (f2.trans f3)
          · dsimp only at es'
            rw [est] at es'
            cases es'
        | joined h =>
          walk_at "rd"
          have z := k0 _ _ hD2 f2
          exact z
        | level h =>
          walk_at "rd"
          exact ⟨L, { D with entered := es }, none, _, _, _, _, _, rfl, hD2, hm2, est, outE.fr k0 f2⟩
        | base h =>
          walk_at "rd"
          exact ⟨L, { D with entered := es }, none, c, _, _, _, _, rfl, hD2, hm2, est, h.ne, outE.fr k0 f2⟩
      | false =>
        have hnv : ¬ v = .non := of_decide_eq_false hv0
        walk_at "rd"
        rw [hv0]
        walk_at "rd"
        cases bz : wordB v with
        | false =>
          have k1 : outE a (D, some (.badword v)) H L Q E := by
            have e : leaveV D v c = (D, some (.badword v)) := by
              unfold leaveV
              split
              · exact absurd rfl hnv
              · rename_i z
                rw [if_neg (show ¬ wordS z = true from fun q => by rw [show wordB (.str z) = wordS z from rfl, q] at bz; cases bz), if_neg hfl2]
              · rw [if_neg hfl2]
            rw [e] at k
            exact k
          refine iteT ?_
          walk_at "rd"
          exact k1 H L hD Fr.refl
        | true =>
          refine iteF ?_
          obtain ⟨z, rfl⟩ : ∃ z, v = .str z := by
            cases v <;> first | exact ⟨_, rfl⟩ | cases bz
          have hz : IsWord z := wordS_of bz
          have k0 := kk (some z) (fun z' e => Option.some.inj e ▸ hz) rfl
          have tz := word_thing (H := upd H L.e (.lst (rv V.str (e :: es)).dropLast)) hz
          walk_at "rd"
          generalize upd H L.e (.lst (rv V.str (e :: es)).dropLast) = H2 at hD2 f2 g1 tz ⊢
          cases hw2 with
          | plain h =>
            walk_at "rd"
            have z := k0 _ _ hD2 f2
            exact z
          | outside h =>
            have et := hD2.top
            rcases et with ⟨ts, st', et, es'⟩ | ⟨t, ts, x, st', y', rs', et, es', ex, h4, h5⟩
            · dsimp only at es'
              rw [est] at es'
              cases es'
              have g2 := hD2.s
              rw [et] at g2
              have e3 := rv_pop (f := tV) (x := none) (l := ts)
              walk_at "rd"
              have hD3 := hD2.popS et est (by simp)
              have f3 := Fr.popS (H := H2) (o := .lst (rv tV ts)) et
              rw [← rv_drop (f := tV) (x := none) (l := ts)] at hD3 f3
              rw [est] at k0
              exact k0 _ _ hD3 (f2.trans f3)
            · dsimp only at es'
              rw [est] at es'
              cases es'
          | joined h =>
            walk_at "rd"
            refine ⟨L, { D with entered := es }, .str z, rfl, tz, hD2, ?_⟩
            rw [doomV_word hz]
            exact outE.fr k0 f2
          | level h =>
            walk_at "rd"
            exact ⟨L, { D with entered := es }, (some z), _, _, _, _, _, rfl, hD2, hm2, est, outE.fr k0 f2⟩
          | base h =>
            walk_at "rd"
            exact ⟨L, { D with entered := es }, (some z), c, _, _, _, _, rfl, hD2, hm2, est, h.ne, outE.fr k0 f2⟩
theorem cut_rv {α : Type} {f : α → V} {x : α} {l : List α} : cutV (rv f (x :: l)) none (some (-1)) = rv f l := by
  rw [rv_cons]
  show List.take (HT.sIx (rv f l ++ [f x]).length (rv f l ++ [f x]).length (some (-1)) - 0) (List.drop 0 (rv f l ++ [f x])) = rv f l
  rw [List.drop_zero, Nat.sub_zero]
  have e : HT.sIx (rv f l ++ [f x]).length (rv f l ++ [f x]).length (some (-1)) = (rv f l).length := by
    unfold HT.sIx
    rw [List.length_append, List.length_singleton]
    simp only
    rw [if_pos (by decide)]
    omega
  rw [e, List.take_left]
/-! ### held records -/
def spHeldBy (K : PySem.W.Frag) (a : Ad) : Sp := fun vs H Q _ => ∃ L D p ns, vs = [.ref L.db, .ref p] ∧ SqL K H p (ns.map V.int) ∧ DB a H L D ∧ Sm D ∧
  ∀ H' q, Same H H' → H' q = some (.lst ((sortT (heldL D.rows ns)).map V.str)) → H q = none → Q (.ref q) H'
theorem inV_ints {i : Int} {ns : List Int} : inV (.int i) (ns.map V.int) = decide (i ∈ ns) := by
  unfold inV
  rw [List.any_map]
  induction ns with
  | nil => rfl
  | cons n r ih =>
    rw [List.any_cons, ih]
    have e : eqV (V.int n) (V.int i) = decide (n = i) := by
      show (n == i) = decide (n = i)
      exact (by by_cases h : n = i <;> simp [h])
    show (eqV (V.int n) (V.int i) || decide (i ∈ r)) = _
    rw [e]
    by_cases h : n = i
    · subst h
      simp
    · have h' : ¬ i = n := fun z => h z.symm
      simp [h, h']
theorem ok_Database_held_by (T : Txt K mg a d) : FnOk P w K mg base CX0 1 a.Database_held_by d.Database_held_by ["self", "numbers"] (spHeldBy K a) := by
  refine T.Database_held_by.ok sc_Database_held_by (fun vs H Q E h => ?_) (fun cdv A outer s H vs Q E hr h => ?_)
  · obtain ⟨L, D, p, ns, rfl, _⟩ := h
    rfl
  · obtain ⟨L, D, p, ns, rfl, hp, hD, hm, k⟩ := h
    have c1 := T.k_Database
    have c3 := T.k_Write
    have n2 := T.na_Database_rows
    have n5 := T.na_Write_fate
    have n6 := T.na_Write_holder
    have n7 := T.na_Write_record
    have h1 := hD.db
    have h2 := hD.r
    refine ⟨_, (pss_one (ps_ret (pe_callB (cr_sortTS rfl) (by rfl) T.n_sorted (by decide +kernel) (pa_cons (pe_scT (own := [("row", 2)]) rfl sc_Database_held_by.nd (pi_list (pe_fld (pv 0) rfl)) (blkOk_by (own := [("row", 2)]) (N := ["self", "numbers", "row"]) (sc := defScope s_Database_held_by) (by decide +kernel)) (fun _ _ _ _ _ => (pg_name (i := 2) sc_Database_held_by.nd rfl (Or.inl rfl))) (fun _ _ _ _ _ => (pts_one (PW.pt (pw_and (pt_cmpR op_eq (pe_fldK (K := K) rfl (pv 2) rfl) pe_str (nomark _)) (pw_and1 (pt_cmpR (op_inK (K := K) rfl) (pe_fldK (K := K) rfl (pv 2) rfl) (pv 1) (by rfl))))))) (fun _ _ _ _ _ => (pe_fldK (K := K) rfl (pv 2) rfl))) pa_nil)))), ?_⟩
    dsimp only [cxOf]
    walk_at "rd"
    refine ⟨⟨_, SqL.of h2⟩, ?_⟩
    intro S hS
    have hlw : L.ws.length = D.rows.length := hD.rows.len
    refine sc_listT (xs := L.ws.map fun w => V.ref w.1) (fun i H' => Kp (fun b => b = S) H H' ∧ H' S = some (TSO w S (heldL (D.rows.take i) ns))) ?_ ?_ ?_ ?_
    · exact ⟨Kp.refl.fresh hS, upd_same⟩
    · rintro i H' _ ⟨kp, _⟩
      exact SqL.of (kp _ _ h2 (ne_of_none h2 hS))
    · rintro i v H' hv ⟨kp, hS'⟩
      obtain ⟨w', hw, rfl⟩ := map_ref hv
      obtain ⟨x, hx, hxw⟩ := hD.rows.get hw
      have hxw : H w'.1 = some (.ins a.Write w'.2 (rwF x)) := hxw
      have hx' := kp _ _ hxw (ne_of_none hxw hS)
      have hp' : SqL K H' p (ns.map V.int) := (Same.seq (Kp.same (Same.refl H) kp fun c e => e ▸ hS) hp)
      have hl : (heldL (D.rows.take i) ns).length + 1 < scanBound := by
        have h1 := held_len (rows := D.rows.take i) (ns := ns)
        have h2 := hm.n
        have h3 : (D.rows.take i).length ≤ D.rows.length := by rw [List.length_take]; omega
        have h4 : scanBound = 4096 := rfl
        omega
      rw [held_take (ns := ns) hx]
      walk_at "rd"
      refine ite2 (fun b1 => ?_) (fun b1 => ?_)
      · have q1 : x.fate = "open" := V.str.inj (of_decide_eq_true b1)
        walk_at "rd"
        refine ⟨?_, ?_⟩
        · rw [List.all_map]
          exact List.all_eq_true.mpr fun _ _ => rfl
        rw [show (if false = true then !inV (V.int x.holder) (ns.map V.int) else inV (V.int x.holder) (ns.map V.int)) = inV (V.int x.holder) (ns.map V.int) from rfl, inV_ints]
        by_cases b2 : x.holder ∈ ns
        · rw [decide_eq_true b2, show heldS ns (heldL (D.rows.take i) ns) x = addT x.rcd (heldL (D.rows.take i) ns) from if_pos ⟨q1, b2⟩]
          walk_at "rd"
          first
            | exact ⟨kp.set1, upd_same⟩
            | exact upd_same
        · rw [decide_eq_false b2, show heldS ns (heldL (D.rows.take i) ns) x = heldL (D.rows.take i) ns from if_neg fun c => b2 c.2]
          exact ⟨_, rfl, kp, hS'⟩
      · have q1 : ¬ x.fate = "open" := fun e => b1 (decide_eq_true (congrArg V.str e))
        rw [show heldS ns (heldL (D.rows.take i) ns) x = heldL (D.rows.take i) ns from if_neg fun c => q1 c.1]
        exact ⟨kp, hS'⟩
    · rintro H' ⟨kp, hS'⟩
      rw [List.length_map, hlw, List.take_length] at hS'
      have sm : Same H H' := Kp.same (Same.refl H) kp fun c e => e ▸ hS
      refine ⟨S, _, rfl, hS', fun q hq => k _ q (sm.new hq) upd_same (sm.free hq)⟩
/-- [one.number for one in ts if one is not None] -/
def numsR (st : List (Option Tx)) : List Int := (st.reverse.filterMap fun t => t.map (·.num))
def outerL (D : Db) : List Str := sortT (heldL D.rows (numsR D.stack.tail))
def ownL (D : Db) : List Str := sortT (heldL D.rows (numsR (D.stack.take 1)))
theorem nums_step {st : List (Option Tx)} {i : Nat} {t : Option Tx} (h : st.reverse[i]? = some t) : (st.reverse.take (i + 1)).filterMap (fun t => t.map (·.num)) = (st.reverse.take i).filterMap (fun t => t.map (·.num)) ++ (t.map (·.num)).toList := by
  rw [List.take_add_one, h, List.filterMap_append]
  cases t <;> rfl
theorem All2.rev {α β : Type} {R : α → β → Prop} {l : List α} {m : List β} (a : All2 R l m) : All2 R l.reverse m.reverse := by
  induction a with
  | nil => exact .nil
  | cons r _ ih => rw [List.reverse_cons, List.reverse_cons]; exact ih.snoc r
def spRecs (a : Ad) (f : Db → List Str) : Sp := fun vs H Q _ => ∃ L D, vs = [.ref L.db] ∧ DB a H L D ∧ Sm D ∧ ∀ H' q, Same H H' → H' q = some (.lst ((f D).map V.str)) → H q = none → Q (.ref q) H'
theorem ok_Database_outer_records (T : Txt K mg a d) : FnOk P w K mg base CX0 2 a.Database_outer_records d.Database_outer_records ["self"] (spRecs a outerL) := by
  have G_Database_held_by : FnOk P w K mg base CX0 1 a.Database_held_by d.Database_held_by ["self", "numbers"] (spHeldBy K a) := ok_Database_held_by T
  refine T.Database_outer_records.ok sc_Database_outer_records (fun vs H Q E h => ?_) (fun cdv A outer s H vs Q E hr h => ?_)
  · obtain ⟨L, D, rfl, _⟩ := h
    rfl
  · obtain ⟨L, D, rfl, hD, hm, k⟩ := h
    have c1 := T.k_Database
    have c2 := T.k_Transaction
    have n1 := T.na_Database_stack
    have n4 := T.na_Transaction_number
    have h1 := hD.db
    have h2 := hD.s
    obtain ⟨t0, ts, x0, st, et, es, a2⟩ : ∃ t0 ts x0 st, L.ts = t0 :: ts ∧ D.stack = x0 :: st ∧ All2 (TxAt a.Transaction H) ts st := by
      have hx := hD.txs
      have ne := hD.ne
      generalize L.ts = l at hx ⊢
      generalize D.stack = m at hx ne ⊢
      cases hx with
      | nil => exact absurd rfl ne
      | cons r t => exact ⟨_, _, _, _, rfl, rfl, t⟩
    have a3 := a2.rev
    have ol : outerL D = sortT (heldL D.rows (numsR st)) := by unfold outerL; rw [es]; rfl
    refine ⟨_, (pss_one (ps_ret (pe_meth (pv 0) T.k_Database T.m_Database_held_by G_Database_held_by (hr.mono (by decide)) T.b_Database_held_by .nil pass0 (pa_cons (pe_lc (own := [("one", 1)]) rfl sc_Database_outer_records.nd (pi_list (pe_slice sl_list (pe_fld (pv 0) rfl) po_none (po_some (pe_un un_neg pe_int)))) (blkOk_by (own := [("one", 1)]) (N := ["self", "one"]) (sc := defScope s_Database_outer_records) (by decide +kernel)) (fun _ _ _ _ _ => (pg_name (i := 1) sc_Database_outer_records.nd rfl (Or.inl rfl))) (fun _ _ _ _ _ => (pts_one (pt_cmpR op_notN (pv 1) pe_non (nomark _)))) (fun _ _ _ _ _ => (pe_fldK (K := K) rfl (pv 1) rfl))) pa_nil)))), ?_⟩
    dsimp only [cxOf]
    walk_at "rd"
    intro p1 f1
    rw [et, cut_rv]
    have s1 : Same H (upd H p1 (.lst (rv tV ts))) := (Same.refl H).new f1
    refine ⟨_, rfl, ⟨_, SqL.of upd_same⟩, ?_⟩
    intro S hS
    have s2 : Same H (upd (upd H p1 (.lst (rv tV ts))) S (.lst [])) := s1.new hS
    have nS : p1 ≠ S := ne_of_none upd_same hS
    refine lc_list (xs := rv tV ts) (fun i H' => Kp (fun b => b = S) (upd H p1 (.lst (rv tV ts))) H' ∧ H' S = some (.lst (((st.reverse.take i).filterMap fun t => t.map (·.num)).map V.int))) ?_ ?_ ?_ ?_
    · exact ⟨Kp.refl.fresh hS, upd_same⟩
    · rintro i H' _ ⟨kp, _⟩
      exact SqL.of (kp _ _ upd_same nS)
    · rintro i v H' hv ⟨kp, hS'⟩
      have hv' : ts.reverse.map tV = rv tV ts := by unfold rv; rw [List.map_reverse]
      rw [← hv', List.getElem?_map] at hv
      cases e : ts.reverse[i]? with
      | none => rw [e] at hv; cases hv
      | some t =>
        rw [e] at hv
        cases hv
        obtain ⟨x, hx, hxt⟩ := a3.get e
        have hst := nums_step hx
        cases t with
        | none =>
          cases x with
          | some x => exact hxt.elim
          | none =>
            walk_at "rd"
            try refine ⟨kp, ?_⟩
            rw [hst]
            simpa using hS'
        | some t =>
          cases x with
          | none => exact hxt.elim
          | some x =>
            obtain ⟨j1, _, _⟩ := hxt
            have hl : (((st.reverse.take i).filterMap fun t => t.map (·.num)).map V.int).length < sizeLine := by
              rw [List.length_map, sizeLine_eq]
              have h1 := List.length_filterMap_le (fun t : Option Tx => t.map (·.num)) (st.reverse.take i)
              have h2 := hm.s
              rw [es, List.length_cons] at h2
              rw [List.length_take, List.length_reverse] at h1
              omega
            have j2 := kp _ _ (s1 _ _ j1) (ne_of_none (s1 _ _ j1) hS)
            walk_at "rd"
            try refine ⟨kp.set1, ?_⟩
            rw [hst, List.map_append]
            exact upd_same
    · rintro H' ⟨kp, hS'⟩
      rw [rv_len, a2.len, ← List.length_reverse, List.take_length] at hS'
      have sm : Same H H' := Kp.same s1 kp fun c e => e ▸ s1.free hS
      have hx1 := sm _ _ h1
      walk_at "rd"
      exact ⟨L, D, S, numsR st, rfl, SqL.of hS', hD.keep (fun b u _ e => sm b u e), hm, fun H2 q s2 hq nq => k H2 q (sm.trans s2) (ol ▸ hq) (sm.free nq)⟩
theorem cut_last {α : Type} {f : α → V} {x : α} {l : List α} : cutV (rv f (x :: l)) (some (-1)) none = [f x] := by
  rw [rv_cons]
  show List.take (HT.sIx (rv f l ++ [f x]).length (rv f l ++ [f x]).length none - HT.sIx (rv f l ++ [f x]).length 0 (some (-1))) (List.drop (HT.sIx (rv f l ++ [f x]).length 0 (some (-1))) (rv f l ++ [f x])) = [f x]
  have e1 : HT.sIx (rv f l ++ [f x]).length 0 (some (-1)) = (rv f l).length := by
    unfold HT.sIx
    rw [List.length_append, List.length_singleton]
    simp only
    rw [if_pos (by decide)]
    omega
  have e2 : HT.sIx (rv f l ++ [f x]).length (rv f l ++ [f x]).length none = (rv f l).length + 1 := by
    unfold HT.sIx
    rw [List.length_append, List.length_singleton]
  rw [e1, e2, List.drop_left]
  simp
theorem ok_Database_held_records (T : Txt K mg a d) : FnOk P w K mg base CX0 2 a.Database_held_records d.Database_held_records ["self"] (spRecs a ownL) := by
  have G_Database_held_by : FnOk P w K mg base CX0 1 a.Database_held_by d.Database_held_by ["self", "numbers"] (spHeldBy K a) := ok_Database_held_by T
  refine T.Database_held_records.ok sc_Database_held_records (fun vs H Q E h => ?_) (fun cdv A outer s H vs Q E hr h => ?_)
  · obtain ⟨L, D, rfl, _⟩ := h
    rfl
  · obtain ⟨L, D, rfl, hD, hm, k⟩ := h
    have c1 := T.k_Database
    have c2 := T.k_Transaction
    have n1 := T.na_Database_stack
    have n4 := T.na_Transaction_number
    have h1 := hD.db
    have h2 := hD.s
    obtain ⟨t0, ts, x0, st, et, es, r0⟩ : ∃ t0 ts x0 st, L.ts = t0 :: ts ∧ D.stack = x0 :: st ∧ TxAt a.Transaction H t0 x0 := by
      have hx := hD.txs
      have ne := hD.ne
      generalize L.ts = l at hx ⊢
      generalize D.stack = m at hx ne ⊢
      cases hx with
      | nil => exact absurd rfl ne
      | cons r t => exact ⟨_, _, _, _, rfl, rfl, r⟩
    have ol : ownL D = sortT (heldL D.rows (numsR [x0])) := by unfold ownL; rw [es]; rfl
    refine ⟨_, (pss_one (ps_ret (pe_meth (pv 0) T.k_Database T.m_Database_held_by G_Database_held_by (hr.mono (by decide)) T.b_Database_held_by .nil pass0 (pa_cons (pe_lc (own := [("one", 1)]) rfl sc_Database_held_records.nd (pi_list (pe_slice sl_list (pe_fld (pv 0) rfl) (po_some (pe_un un_neg pe_int)) po_none)) (blkOk_by (own := [("one", 1)]) (N := ["self", "one"]) (sc := defScope s_Database_held_records) (by decide +kernel)) (fun _ _ _ _ _ => (pg_name (i := 1) sc_Database_held_records.nd rfl (Or.inl rfl))) (fun _ _ _ _ _ => (pts_one (pt_cmpR op_notN (pv 1) pe_non (nomark _)))) (fun _ _ _ _ _ => (pe_fldK (K := K) rfl (pv 1) rfl))) pa_nil)))), ?_⟩
    dsimp only [cxOf]
    walk_at "rd"
    intro p1 f1
    rw [et, cut_last]
    have s1 : Same H (upd H p1 (.lst [tV t0])) := (Same.refl H).new f1
    refine ⟨_, rfl, ⟨_, SqL.of upd_same⟩, ?_⟩
    intro S hS
    have nS : p1 ≠ S := ne_of_none upd_same hS
    refine lc_list (xs := [tV t0]) (fun i H' => Kp (fun b => b = S) (upd H p1 (.lst [tV t0])) H' ∧ H' S = some (.lst ((([x0].take i).filterMap fun t => t.map (·.num)).map V.int))) ?_ ?_ ?_ ?_
    · exact ⟨Kp.refl.fresh hS, upd_same⟩
    · rintro i H' _ ⟨kp, _⟩
      exact SqL.of (kp _ _ upd_same nS)
    · rintro i v H' hv ⟨kp, hS'⟩
      cases i with
      | succ i => simp at hv
      | zero =>
        cases hv
        have hS'' : H' S = some (.lst []) := hS'
        cases t0 with
        | none =>
          cases x0 with
          | some x => exact r0.elim
          | none =>
            walk_at "rd"
            first
              | exact ⟨kp, hS'⟩
              | exact hS'
        | some t =>
          cases x0 with
          | none => exact r0.elim
          | some x =>
            obtain ⟨j1, _, _⟩ := r0
            have j2 := kp _ _ (s1 _ _ j1) (ne_of_none (s1 _ _ j1) hS)
            walk_at "rd"
            try refine ⟨kp.set1, ?_⟩
            exact upd_same
    · rintro H' ⟨kp, hS'⟩
      have sm : Same H H' := Kp.same s1 kp fun c e => e ▸ s1.free hS
      have hx1 := sm _ _ h1
      walk_at "rd"
      refine ⟨L, D, S, numsR [x0], rfl, SqL.of ?_, hD.keep (fun b u _ e => sm b u e), hm, fun H2 q s2 hq nq => k H2 q (sm.trans s2) (ol ▸ hq) (sm.free nq)⟩
      exact hS'
/-! ### writes -/
def spWrI (a : Ad) : Sp := fun vs H Q _ => ∃ (x dx : Addr) (r : Row), vs = [.ref x, .str r.rcd, r.val, .str r.fate, .int r.holder, .int r.level] ∧ H x = some (.ins a.Write dx []) ∧ Q .non (upd H x (.ins a.Write dx (rwF r)))
theorem upd_upd {H : Hp} {a : Addr} {o u : HO} : upd (upd H a o) a u = upd H a u := by
  funext b
  by_cases h : b = a
  · subst h
    rw [upd_same, upd_same]
  · rw [upd_ne h, upd_ne h, upd_ne h]
theorem ok_WriteU_initU (T : Txt K mg a d) : FnOk P w K mg base CX0 1 a.WriteU_initU d.WriteU_initU ["self", "record", "value", "fate", "holder", "level"] (spWrI a) := by
  refine T.WriteU_initU.ok sc_WriteU_initU (fun vs H Q E h => ?_) (fun cdv A outer s H vs Q E hr h => ?_)
  · obtain ⟨x, dx, r, rfl, _⟩ := h
    rfl
  · obtain ⟨x, dx, r, rfl, hx, k⟩ := h
    have c1 := T.k_Write
    have n1 := T.na_Write_record
    have n2 := T.na_Write_value
    have n3 := T.na_Write_fate
    have n4 := T.na_Write_holder
    have n5 := T.na_Write_level
    refine ⟨_, (pss_cons (ps_fld (pv 0) (pv 1) rfl)
  (pss_cons (ps_fld (pv 0) (pv 2) rfl)
  (pss_cons (ps_fld (pv 0) (pv 3) rfl)
  (pss_cons (ps_fld (pv 0) (pv 4) rfl)
  (pss_one (ps_fld (pv 0) (pv 5) rfl)))))), ?_⟩
    dsimp only [cxOf]
    walk_at "rd"
    rw [upd_upd, upd_upd, upd_upd, upd_upd]
    exact k
def spWait (a : Ad) : Sp := fun vs H Q _ => ∃ L D z, vs = [.ref L.db, .str z] ∧ DB a H L D ∧ Sm D ∧ ∀ H', Same H H' → Q (.bl (decide (z ∈ outerL D))) H'
theorem inV_strs {z : Str} {l : List Str} : inV (.str z) (l.map V.str) = decide (z ∈ l) := by
  unfold inV
  rw [List.any_map]
  induction l with
  | nil => rfl
  | cons n r ih =>
    rw [List.any_cons, ih]
    show ((n == z) || decide (z ∈ r)) = _
    by_cases h : n = z
    · subst h
      simp
    · have h' : ¬ z = n := fun q => h q.symm
      simp [h, h']
theorem flat_strs {l : List Str} : (l.map V.str).all flatV = true := by
  rw [List.all_map]
  exact List.all_eq_true.mpr fun _ _ => rfl
theorem ok_Database_would_wait (T : Txt K mg a d) : FnOk P w K mg base CX0 3 a.Database_would_wait d.Database_would_wait ["self", "record"] (spWait a) := by
  have G_Database_outer_records : FnOk P w K mg base CX0 2 a.Database_outer_records d.Database_outer_records ["self"] (spRecs a outerL) := ok_Database_outer_records T
  refine T.Database_would_wait.ok sc_Database_would_wait (fun vs H Q E h => ?_) (fun cdv A outer s H vs Q E hr h => ?_)
  · obtain ⟨L, D, z, rfl, _⟩ := h
    rfl
  · obtain ⟨L, D, z, rfl, hD, hm, k⟩ := h
    have h1 := hD.db
    refine ⟨_, (pss_one (ps_ret (pe_cmpR op_in_seq (pv 1) (pe_meth0 (pv 0) T.k_Database T.m_Database_outer_records G_Database_outer_records (hr.mono (by decide)) T.b_Database_outer_records .nil pass0) (by rfl)))), ?_⟩
    dsimp only [cxOf]
    walk_at "rd"
    refine ⟨L, D, rfl, hD, hm, fun H' q s' hq _ => ?_⟩
    refine ⟨q, _, rfl, .inl (SqL.of hq), rfl, flat_strs, ?_⟩
    rw [show (if false = true then !inV (V.str z) ((outerL D).map V.str) else inV (V.str z) ((outerL D).map V.str)) = inV (V.str z) ((outerL D).map V.str) from rfl, inV_strs]
    exact k H' s'
def addD (D : Db) (r : Row) : Db := { D with rows := D.rows ++ [r] }
def writeD (D : Db) (z : Str) (v : V) : Db × Option EK := match D.stack with
  | none :: _ => if z ∈ outerL D then (D, some (.waits z)) else (addD D ⟨z, v, "kept", -1, 0⟩, none)
  | some ⟨n, y :: rs⟩ :: _ => (match y with
    | some w => (D, some (.doomed w))
    | none => if z ∈ outerL D then (D, some (.waits z)) else (addD D ⟨z, v, "open", n, rs.length⟩, none))
  | _ => (D, none)
def spWrite (a : Ad) : Sp := fun vs H Q E => ∃ L D z v, vs = [.ref L.db, .str z, v] ∧ DB a H L D ∧ Sm D ∧ outE a (writeD D z v) H L Q E
theorem ok_Database_write (T : Txt K mg a d) : FnOk P w K mg base (L2N.CX P w) 4 a.Database_write d.Database_write ["self", "record", "value"] (spWrite a) := by
  have G_Database_would_wait : FnOk P w K mg base CX0 3 a.Database_would_wait d.Database_would_wait ["self", "record"] (spWait a) := ok_Database_would_wait T
  have G_WriteU_initU : FnOk P w K mg base CX0 1 a.WriteU_initU d.WriteU_initU ["self", "record", "value", "fate", "holder", "level"] (spWrI a) := ok_WriteU_initU T
  refine T.Database_write.okXN sc_Database_write (fun vs H Q E h => ?_) (fun cdv A outer s H vs Q E hr h => ?_)
  · obtain ⟨L, D, z, v, rfl, _⟩ := h
    rfl
  · obtain ⟨L, D, z, v, rfl, hD, hm, k⟩ := h
    have c1 := T.k_Database
    have c2 := T.k_Transaction
    have n1 := T.na_Database_stack
    have n2 := T.na_Database_rows
    have n3 := T.na_Transaction_reasons
    have n4 := T.na_Transaction_number
    have h1 := hD.db
    have h2 := hD.s
    have lr : (L.ws.map fun w => V.ref w.1).length < sizeLine := by
      rw [List.length_map, hD.rows.len, sizeLine_eq]
      have := hm.n
      omega
    refine ⟨_, (pss_cons (ps_set (i := 3) sc_Database_write.nd rfl (Or.inl rfl) (pe_ix ix_list (pe_fld (pv 0) rfl) (pe_un un_neg pe_int) (fun _ _ => rfl)))
  (pss_cons (ps_if (PW.pt (pw_and (pt_cmpR op_notN (pv 3) pe_non (nomark _)) (pw_and1 (pt_cmpR op_notN (pe_ix ix_list (pe_fld (pv 3) rfl) (pe_un un_neg pe_int) (fun _ _ => rfl)) pe_non (nomark _))))) (pss_one (ps_raise rfl (takes_of rfl rfl rfl rfl) (pmk_err T.e_Doomed T.g_Doomed T.n_super hr (pa_cons (pe_ix ix_list (pe_fld (pv 3) rfl) (pe_un un_neg pe_int) (fun _ _ => rfl)) pa_nil)))) pss_nil)
  (pss_cons (ps_if (pt_val (pe_meth (pv 0) T.k_Database T.m_Database_would_wait G_Database_would_wait (hr.mono (by decide)) T.b_Database_would_wait .nil pass0 (pa_cons (pv 1) pa_nil))) (pss_one (ps_raise rfl (takes_of rfl rfl rfl rfl) (pmk_err T.e_Waits T.g_Waits T.n_super hr (pa_cons (pv 1) pa_nil)))) pss_nil)
  (pss_one (ps_if (pt_cmpR op_isN (pv 3) pe_non (nomark _)) (pss_one (ps_expr (pe_bm PySem.F.plainAttrs_list PySem.F.slot_list_append PySem.F.type_list_append mt_append (pe_fld (pv 0) rfl) (pa_cons (pe_make T.mk_Write G_WriteU_initU (hr.mono (by decide)) (by rfl) T.g_Write T.b_WriteU_initU .nil pass0 (pa_cons (pv 1) (pa_cons (pv 2) (pa_cons pe_str (pa_cons (pe_un un_neg pe_int) (pa_cons pe_int pa_nil)))))) pa_nil)))) (pss_one (ps_expr (pe_bm PySem.F.plainAttrs_list PySem.F.slot_list_append PySem.F.type_list_append mt_append (pe_fld (pv 0) rfl) (pa_cons (pe_make T.mk_Write G_WriteU_initU (hr.mono (by decide)) (by rfl) T.g_Write T.b_WriteU_initU .nil pass0 (pa_cons (pv 1) (pa_cons (pv 2) (pa_cons pe_str (pa_cons (pe_fld (pv 3) rfl) (pa_cons (pe_op op_sub (pe_callB call_len_seq (by rfl) T.n_len PySem.boot_len (pa_cons (pe_fld (pv 3) rfl) pa_nil)) pe_int) pa_nil)))))) pa_nil))))))))), ?_⟩
    dsimp only [cxOf]
    unfold writeD at k
    -- the row made
    have mk : ∀ (r : Row) {H1 : Hp}, Same H H1 → outE a (addD D r, none) H L Q E → ∀ x dx, H1 x = none → H1 dx = none → dx ≠ x → Q .non (upd (upd (upd (upd H1 dx (HO.own x)) x (HO.ins a.Write dx [])) x (HO.ins a.Write dx (rwF r))) L.r (.lst ((L.ws.map fun w => V.ref w.1) ++ [.ref x]))) := fun r H1 s1 k x dx hx hdx nx => by
      have s2 : Same H (upd (upd (upd H1 dx (HO.own x)) x (HO.ins a.Write dx [])) x (HO.ins a.Write dx (rwF r))) := ((s1.new hdx).frsh (s1.free hx)).frsh (s1.free hx)
      have hD2 : DB a _ L D := hD.keep fun b u _ e => s2 b u e
      have hD3 := hD2.addRow (w := (x, dx)) (x := r) upd_same (hD.fresh (s1.free hx))
      have f3 := Fr.addRow (L := L) (w := (x, dx)) (o := .lst ((L.ws ++ [(x, dx)]).map fun w => .ref w.1)) (.of_same s2) (s1.free hx)
      have z := k _ _ hD3 f3
      rw [List.map_append] at z
      exact z
    rcases hD.top with ⟨ts, st, et, es⟩ | ⟨t, ts, x, st, y, rs, et, es, ex, h4, h5⟩
    · rw [es] at k
      rw [et] at h2
      have e1 := rv_at (f := tV) (x := none) (l := ts)
      walk_at "rd"
      refine ⟨L, D, z, rfl, hD, hm, fun H1 s1 => ?_⟩
      have hD1 : DB a H1 L D := hD.keep fun b u _ e => s1 b u e
      have j1 := hD1.db
      have j2 := hD1.r
      by_cases b1 : z ∈ outerL D
      · rw [if_pos b1] at k
        rw [decide_eq_true b1]
        walk_at "rd"
        exact k H1 L hD1 (Fr.same s1)
      · rw [if_neg b1] at k
        rw [decide_eq_false b1]
        walk_at "rd"
        intro x dx hx hdx nx
        refine ⟨x, dx, ⟨z, v, "kept", -1, 0⟩, rfl, upd_same, rfl, ?_⟩
        have q1 : upd (upd (upd H1 dx (HO.own x)) x (HO.ins a.Write dx [])) x (HO.ins a.Write dx (rwF ⟨z, v, "kept", -1, 0⟩)) L.r = some (.lst (L.ws.map fun w => .ref w.1)) := upd_oth (ne_of_none j2 hx) (upd_oth (ne_of_none j2 hx) (upd_old j2 hdx))
        refine ⟨L.r, _, _, rfl, rfl, q1, lr, mk _ s1 k x dx hx hdx nx⟩
    · obtain ⟨n, rs0⟩ := x
      dsimp only at ex
      subst ex
      rw [es] at k
      rw [et] at h2
      have e1 := rv_at (f := tV) (x := some t) (l := ts)
      have e2 := rv_at (f := oV) (x := y) (l := rs)
      cases y with
      | some y =>
        walk_at "rd"
        exact k H L hD Fr.refl
      | none =>
        walk_at "rd"
        refine ⟨L, D, z, rfl, hD, hm, fun H1 s1 => ?_⟩
        have hD1 : DB a H1 L D := hD.keep fun b u _ e => s1 b u e
        have j1 := hD1.db
        have j2 := hD1.r
        have j4 := s1 _ _ h4
        have j5 := s1 _ _ h5
        dsimp only at k
        by_cases b1 : z ∈ outerL D
        · rw [if_pos b1] at k
          rw [decide_eq_true b1]
          walk_at "rd"
          exact k H1 L hD1 (Fr.same s1)
        · rw [if_neg b1] at k
          rw [decide_eq_false b1]
          walk_at "rd"
          rw [rv_len]
          intro x dx hx hdx nx
          have el : ((none :: rs : List (Option Str)).length : Int) - 1 = (rs.length : Int) := by rw [List.length_cons]; omega
          refine ⟨x, dx, ⟨z, v, "open", n, rs.length⟩, ?_, upd_same, rfl, ?_⟩
          · show _ = [V.ref x, V.str z, v, V.str "open", V.int n, V.int (rs.length : Int)]
            rw [← el]; rfl
          have q1 : upd (upd (upd H1 dx (HO.own x)) x (HO.ins a.Write dx [])) x (HO.ins a.Write dx (rwF ⟨z, v, "open", n, rs.length⟩)) L.r = some (.lst (L.ws.map fun w => .ref w.1)) := upd_oth (ne_of_none j2 hx) (upd_oth (ne_of_none j2 hx) (upd_old j2 hdx))
          refine ⟨L.r, _, _, rfl, rfl, q1, lr, mk _ s1 k x dx hx hdx nx⟩
def setV (D : Db) (u v : V) : Db × Option EK := if wordB u = true then (match u with
  | .str z => writeD D z v
  | _ => (D, none)) else (D, some (.badword u))
theorem setV_word {D : Db} {z : Str} {v : V} (h : IsWord z) : setV D (.str z) v = writeD D z v := by
  unfold setV
  rw [if_pos (show wordB (.str z) = true from h.ok)]
def spSet (a : Ad) : Sp := fun vs H Q E => ∃ L D u v, vs = [.ref L.db, u, v] ∧ Thing H u ∧ DB a H L D ∧ Sm D ∧ outE a (setV D u v) H L Q E
theorem ok_DatabaseU_setitemU (T : Txt K mg a d) : FnOk P w K mg base (L2N.CX P w) 5 a.DatabaseU_setitemU d.DatabaseU_setitemU ["self", "record", "value"] (spSet a) := by
  have G_is_word : FnOk P w K mg base CX0 1 a.is_word d.is_word ["thing"] spIsWord := ok_is_word T
  have G_Database_write : FnOk P w K mg base (L2N.CX P w) 4 a.Database_write d.Database_write ["self", "record", "value"] (spWrite a) := ok_Database_write T
  refine T.DatabaseU_setitemU.okXN sc_DatabaseU_setitemU (fun vs H Q E h => ?_) (fun cdv A outer s H vs Q E hr h => ?_)
  · obtain ⟨L, D, u, v, rfl, _⟩ := h
    rfl
  · obtain ⟨L, D, u, v, rfl, tu, hD, hm, k⟩ := h
    have h1 := hD.db
    refine ⟨_, (pss_cons (ps_if (pt_not (pt_val (pe_call G_is_word (hr.mono (by decide)) (by rfl) T.g_is_word T.is_word.kp T.b_is_word .nil pass0 (pa_cons (pv 1) pa_nil)))) (pss_one (ps_raise rfl (takes_of rfl rfl rfl rfl) (pmk_err T.e_BadWord T.g_BadWord T.n_super hr (pa_cons (pv 1) pa_nil)))) pss_nil)
  (pss_one (ps_expr (pe_meth (pv 0) T.k_Database T.m_Database_write G_Database_write (hr.mono (by decide)) T.b_Database_write .nil (passes_call (takes_of rfl rfl rfl rfl) (fun _ _ _ _ h => h)) (pa_cons (pv 1) (pa_cons (pv 2) pa_nil)))))), ?_⟩
    try dsimp only [cxOf]
    walk_at "rd"
    unfold setV at k
    cases bz : wordB u with
    | false =>
      rw [bz] at k
      refine iteT ?_
      walk_at "rd"
      exact k H L hD Fr.refl
    | true =>
      rw [bz, if_pos rfl] at k
      refine iteF ?_
      obtain ⟨z, rfl⟩ : ∃ z, u = .str z := by
        cases u <;> first | exact ⟨_, rfl⟩ | cases bz
      walk_at "rd"
      exact ⟨L, D, z, v, rfl, hD, hm, k⟩
/-! ### sees, [], in -/
def seesD (D : Db) (r : Row) : Bool := if r.fate = "open" then (match D.stack with | some x :: _ => decide (r.holder = x.num) | _ => false) else decide (r.fate = "kept")
def spSees (a : Ad) : Sp := fun vs H Q _ => ∃ (L : Lay) (D : Db) (w' : Addr × Addr) (r : Row), vs = [.ref L.db, .ref w'.1] ∧ H w'.1 = some (.ins a.Write w'.2 (rwF r)) ∧ DB a H L D ∧ Q (.bl (seesD D r)) H
theorem str_dec {x y : Str} : decide (V.str x = V.str y) = decide (x = y) := decide_eq_decide.mpr ⟨fun h => V.str.inj h, fun h => congrArg V.str h⟩
theorem int_dec {x y : Int} : decide (V.int x = V.int y) = decide (x = y) := decide_eq_decide.mpr ⟨fun h => V.int.inj h, fun h => congrArg V.int h⟩
theorem ok_Database_sees (T : Txt K mg a d) : FnOk P w K mg base CX0 1 a.Database_sees d.Database_sees ["self", "row"] (spSees a) := by
  refine T.Database_sees.ok sc_Database_sees (fun vs H Q E h => ?_) (fun cdv A outer s H vs Q E hr h => ?_)
  · obtain ⟨L, D, w', r, rfl, _⟩ := h
    rfl
  · obtain ⟨L, D, w', r, rfl, hw, hD, k⟩ := h
    have c1 := T.k_Database
    have c2 := T.k_Transaction
    have c3 := T.k_Write
    have n1 := T.na_Database_stack
    have n4 := T.na_Transaction_number
    have n5 := T.na_Write_fate
    have n6 := T.na_Write_holder
    have h1 := hD.db
    have h2 := hD.s
    refine ⟨_, (pss_cons (ps_if (pt_cmpR op_eq (pe_fld (pv 1) rfl) pe_str (nomark _)) (pss_one (ps_ret (pe_and (pe_cmpR op_notN (pe_ix ix_list (pe_fld (pv 0) rfl) (pe_un un_neg pe_int) (fun _ _ => rfl)) pe_non (nomark _)) (pe_one (pe_cmpR op_eq (pe_fld (pv 1) rfl) (pe_fld (pe_ix ix_list (pe_fld (pv 0) rfl) (pe_un un_neg pe_int) (fun _ _ => rfl)) rfl) (nomark _)))))) pss_nil)
  (pss_one (ps_ret (pe_cmpR op_eq (pe_fld (pv 1) rfl) pe_str (nomark _))))), ?_⟩
    dsimp only [cxOf]
    unfold seesD at k
    walk_at "rd"
    refine ite2 (fun b1 => ?_) (fun b1 => ?_)
    · have q1 : r.fate = "open" := V.str.inj (of_decide_eq_true b1)
      rw [if_pos q1] at k
      rcases hD.top with ⟨ts, st, et, es⟩ | ⟨t, ts, x, st, y, rs, et, es, ex, h4, h5⟩
      · rw [es] at k
        rw [et] at h2
        have e1 := rv_at (f := tV) (x := none) (l := ts)
        walk_at "rd"
        exact k
      · rw [es] at k
        rw [et] at h2
        have e1 := rv_at (f := tV) (x := some t) (l := ts)
        walk_at "rd"
        first
          | exact k
          | (rw [int_dec]; exact k)
    · have q1 : ¬ r.fate = "open" := fun e => b1 (decide_eq_true (congrArg V.str e))
      rw [if_neg q1] at k
      walk_at "rd"
      first
        | exact k
        | (rw [str_dec]; exact k)
def hitR (D : Db) (z : Str) (r : Row) : Bool := decide (r.rcd = z) && seesD D r
def foundL (D : Db) (z : Str) : List Row := D.rows.filter (hitR D z)
theorem filter_step {α : Type} {p : α → Bool} {l : List α} {i : Nat} {x : α} (h : l[i]? = some x) : (l.take (i + 1)).filter p = (l.take i).filter p ++ (if p x = true then [x] else []) := by
  rw [List.take_add_one, h, List.filter_append]
  show _ ++ List.filter p [x] = _
  rw [List.filter_cons, List.filter_nil]
theorem at_last {xs : List V} {x : V} : atI (xs ++ [x]) (-1) = some x := by
  have h := rv_at (f := id) (x := x) (l := xs.reverse)
  unfold rv at h
  simpa using h
def hasV (D : Db) : V → Bool
  | .str z => wordS z && !(foundL D z).isEmpty
  | _ => false
def getV (D : Db) : V → Sum V EK
  | .str z => if wordS z = true then (match (foundL D z).getLast? with | some r => .inl r.val | none => .inr (.norecord z)) else .inr (.badword (.str z))
  | v => .inr (.badword v)
/-- what [] leaves -/
def outG (a : Ad) (r : Sum V EK) (H : Hp) (Q : VK) (E : XK) : Prop := ∀ H', Same H H' → match r with
  | .inl v => Q v H'
  | .inr e => errE a e H' E
def spHas (a : Ad) : Sp := fun vs H Q _ => ∃ L D u, vs = [.ref L.db, u] ∧ Thing H u ∧ DB a H L D ∧ Sm D ∧ ∀ H', Same H H' → Q (.bl (hasV D u)) H'
def spGet (a : Ad) : Sp := fun vs H Q E => ∃ L D u, vs = [.ref L.db, u] ∧ Thing H u ∧ DB a H L D ∧ Sm D ∧ outG a (getV D u) H Q E
theorem found_sz {D : Db} {i : Nat} {z : Str} {f : Row → V} (hm : Sm D) : (((D.rows.take i).filter (hitR D z)).map f).length < sizeLine := by
  have h1 := List.length_filter_le (hitR D z) (D.rows.take i)
  have h2 := hm.n
  rw [List.length_take] at h1
  rw [List.length_map, sizeLine_eq]; omega
theorem ok_DatabaseU_getitemU (T : Txt K mg a d) : FnOk P w K mg base (L2N.CX P w) 2 a.DatabaseU_getitemU d.DatabaseU_getitemU ["self", "record"] (spGet a) := by
  have G_is_word : FnOk P w K mg base CX0 1 a.is_word d.is_word ["thing"] spIsWord := ok_is_word T
  have G_Database_sees : FnOk P w K mg base CX0 1 a.Database_sees d.Database_sees ["self", "row"] (spSees a) := ok_Database_sees T
  refine T.DatabaseU_getitemU.okXN sc_DatabaseU_getitemU (fun vs H Q E h => ?_) (fun cdv A outer s H vs Q E hr h => ?_)
  · obtain ⟨L, D, u, rfl, _⟩ := h
    rfl
  · obtain ⟨L, D, u, rfl, tu, hD, hm, k⟩ := h
    have c1 := T.k_Database
    have c3 := T.k_Write
    have n2 := T.na_Database_rows
    have n5 := T.na_Write_value
    have n7 := T.na_Write_record
    have h1 := hD.db
    have h2 := hD.r
    refine ⟨_, (pss_cons (ps_if (pt_not (pt_val (pe_call G_is_word (hr.mono (by decide)) (by rfl) T.g_is_word T.is_word.kp T.b_is_word .nil pass0 (pa_cons (pv 1) pa_nil)))) (pss_one (ps_raise rfl (takes_of rfl rfl rfl rfl) (pmk_err T.e_BadWord T.g_BadWord T.n_super hr (pa_cons (pv 1) pa_nil)))) pss_nil)
  (pss_cons (ps_setLc (i := 2) (own := [("row", 3)]) rfl sc_DatabaseU_getitemU.nd rfl rfl (sw_true rfl rfl rfl (by decide +kernel)) (pi_list (pe_fld (pv 0) rfl)) (blkOk_by (own := [("row", 3)]) (N := ["self", "record", "found", "row"]) (sc := defScope s_DatabaseU_getitemU) (by decide +kernel)) (fun _ _ _ _ _ => (pg_name (i := 3) sc_DatabaseU_getitemU.nd rfl (Or.inl rfl))) (fun _ _ _ _ _ => (pts_one (PW.pt (pw_and (pt_cmpR op_eq (pe_fldK (K := K) rfl (pv 3) rfl) (pv 1) (nomark _)) (pw_and1 (pt_val (pe_meth (pv 0) T.k_Database T.m_Database_sees G_Database_sees (hr.mono (by decide)) T.b_Database_sees .nil pass0 (pa_cons (pv 3) pa_nil)))))))) (fun _ _ _ _ _ => (pe_fldK (K := K) rfl (pv 3) rfl)))
  (pss_cons (ps_if (pt_cmpR (op_eqE hr.units) (pv 2) (pe_lst pa_nil) (nomark _)) (pss_one (ps_raise rfl (takes_of rfl rfl rfl rfl) (pmk_err T.e_NoRecord T.g_NoRecord T.n_super hr (pa_cons (pv 1) pa_nil)))) pss_nil)
  (pss_one (ps_ret (pe_ix ix_list (pv 2) (pe_un un_neg pe_int) (fun _ _ => rfl))))))), ?_⟩
    try dsimp only [cxOf]
    walk_at "rd"
    cases bz : wordB u with
    | false =>
      have e : getV D u = .inr (.badword u) := by
        cases u with
        | str z => exact if_neg (by rw [show wordS z = false from bz]; simp)
        | _ => rfl
      rw [e] at k
      refine iteT ?_
      walk_at "rd"
      exact k H (Same.refl H)
    | true =>
      refine iteF ?_
      obtain ⟨z, rfl⟩ : ∃ z, u = .str z := by
        cases u <;> first | exact ⟨_, rfl⟩ | cases bz
      have e : getV D (.str z) = (match (foundL D z).getLast? with | some r => .inl r.val | none => .inr (.norecord z)) := if_pos bz
      rw [e] at k
      walk_at "rd"
      refine ⟨⟨_, SqL.of h2⟩, ?_⟩
      intro S hS
      have hlw : L.ws.length = D.rows.length := hD.rows.len
      refine lc_list (xs := L.ws.map fun w => V.ref w.1) (fun i H' => Same H H' ∧ H' S = some (.lst (((D.rows.take i).filter (hitR D z)).map (·.val)))) ?_ ?_ ?_ ?_
      · exact ⟨(Same.refl H).new hS, upd_same⟩
      · rintro i H' _ ⟨s1, _⟩
        exact SqL.of (s1 _ _ h2)
      · rintro i v H' hv ⟨s1, hS'⟩
        obtain ⟨w', hw, rfl⟩ := map_ref hv
        obtain ⟨x, hx, hxw⟩ := hD.rows.get hw
        have hxw : H w'.1 = some (.ins a.Write w'.2 (rwF x)) := hxw
        have hx' := s1 _ _ hxw
        have hl := found_sz (i := i) (z := z) (f := (·.val)) hm
        have hD' : DB a H' L D := hD.keep fun b u _ e => s1 b u e
        have hd' := hD'.db
        rw [filter_step (p := hitR D z) hx]
        walk_at "rd"
        refine ite2 (fun b1 => ?_) (fun b1 => ?_)
        · have q1 : x.rcd = z := V.str.inj (of_decide_eq_true b1)
          walk_at "rd"
          refine ⟨L, D, w', x, rfl, hx', hD', ?_⟩
          have eh : hitR D z x = seesD D x := by unfold hitR; rw [decide_eq_true q1, Bool.true_and]
          rw [eh]
          cases b2 : seesD D x with
          | true =>
            walk_at "rd"
            exact ⟨s1.frsh hS, by rw [if_pos rfl, List.map_append]; exact upd_same⟩
          | false =>
            walk_at "rd"
            rw [if_neg (by simp), List.append_nil]
            exact hS'
        · have q1 : ¬ x.rcd = z := fun e => b1 (decide_eq_true (congrArg V.str e))
          have eh : hitR D z x = false := by unfold hitR; rw [decide_eq_false q1]; rfl
          rw [eh]
          exact ⟨s1, by rw [if_neg (by simp), List.append_nil]; exact hS'⟩
      · rintro H' ⟨s1, hS'⟩
        rw [List.length_map, hlw, List.take_length] at hS'
        change H' S = some (.lst ((foundL D z).map (·.val))) at hS'
        walk_at "rd"
        intro n hn
        have sS : Same H (upd H' n (.lst [])) := s1.new hn
        refine ⟨S, n, _, rfl, rfl, SqL.of (upd_old hS' hn), SqL.of upd_same, ?_⟩
        have hS2 : upd H' n (.lst []) S = some (.lst ((foundL D z).map (·.val))) := upd_old hS' hn
        rcases List.eq_nil_or_concat (foundL D z) with e0 | ⟨l, r, e0⟩
        · rw [e0] at k ⊢
          walk_at "rd"
          exact k _ sS
        · rw [e0, List.concat_eq_append] at k hS2 ⊢
          rw [List.map_append] at hS2 ⊢
          rw [List.getLast?_append] at k
          have e1 : atI (List.map (fun x => x.val) l ++ List.map (fun x => x.val) [r]) (-1) = some r.val := at_last (xs := l.map (·.val)) (x := r.val)
          rw [show (List.map (fun x => x.val) l ++ List.map (fun x => x.val) [r]).isEmpty = false by simp]
          walk_at "rd"
          exact k _ sS
theorem map_fst {α β γ : Type} {l : List α} {f : α → β} {g : β → γ} : (l.map f).map g = l.map fun x => g (f x) := by rw [List.map_map]; rfl
/-- the addresses of the rows that are hit -/
def hitW (D : Db) (z : Str) : List (Addr × Addr) → List Row → List V
  | w :: ws, r :: rs => (if hitR D z r = true then [.ref w.1] else []) ++ hitW D z ws rs
  | _, _ => []
theorem hitW_step {D : Db} {z : Str} : ∀ {ws : List (Addr × Addr)} {rs : List Row} {i : Nat} {w : Addr × Addr} {r : Row}, ws[i]? = some w → rs[i]? = some r → hitW D z (ws.take (i + 1)) (rs.take (i + 1)) = hitW D z (ws.take i) (rs.take i) ++ (if hitR D z r = true then [.ref w.1] else [])
  | w :: ws, r :: rs, 0, _, _, h1, h2 => by
    cases h1; cases h2
    simp [hitW]
  | w :: ws, r :: rs, i + 1, w', r', h1, h2 => by
    have := hitW_step (D := D) (z := z) (ws := ws) (rs := rs) (i := i) (w := w') (r := r') h1 h2
    simp only [List.take_succ_cons, hitW, this, List.append_assoc]
  | [], _, _, _, _, h1, _ => by simp at h1
  | _ :: _, [], _, _, _, _, h2 => by simp at h2
theorem hitW_len {D : Db} {z : Str} : ∀ {ws : List (Addr × Addr)} {rs : List Row}, (hitW D z ws rs).length ≤ rs.length
  | w :: ws, r :: rs => by
    have := hitW_len (D := D) (z := z) (ws := ws) (rs := rs)
    simp only [hitW, List.length_append, List.length_cons]
    split <;> simp <;> omega
  | [], rs => by simp [hitW]
  | _ :: _, [] => by simp [hitW]
theorem hitW_nil {D : Db} {z : Str} : ∀ {ws : List (Addr × Addr)} {rs : List Row}, ws.length = rs.length → (hitW D z ws rs).isEmpty = (rs.filter (hitR D z)).isEmpty
  | w :: ws, r :: rs, h => by
    have := hitW_nil (D := D) (z := z) (ws := ws) (rs := rs) (Nat.succ.inj h)
    rw [List.filter_cons]
    simp only [hitW]
    split <;> simp_all
  | [], [], _ => rfl
  | [], _ :: _, h => nomatch h
  | _ :: _, [], h => nomatch h
theorem ok_DatabaseU_containsU (T : Txt K mg a d) : FnOk P w K mg base CX0 2 a.DatabaseU_containsU d.DatabaseU_containsU ["self", "record"] (spHas a) := by
  have G_is_word : FnOk P w K mg base CX0 1 a.is_word d.is_word ["thing"] spIsWord := ok_is_word T
  have G_Database_sees : FnOk P w K mg base CX0 1 a.Database_sees d.Database_sees ["self", "row"] (spSees a) := ok_Database_sees T
  refine T.DatabaseU_containsU.ok sc_DatabaseU_containsU (fun vs H Q E h => ?_) (fun cdv A outer s H vs Q E hr h => ?_)
  · obtain ⟨L, D, u, rfl, _⟩ := h
    rfl
  · obtain ⟨L, D, u, rfl, tu, hD, hm, k⟩ := h
    have c1 := T.k_Database
    have c3 := T.k_Write
    have n2 := T.na_Database_rows
    have n7 := T.na_Write_record
    have h1 := hD.db
    have h2 := hD.r
    refine ⟨_, (pss_one (ps_ret (pe_and (pe_call G_is_word (hr.mono (by decide)) (by rfl) T.g_is_word T.is_word.kp T.b_is_word .nil pass0 (pa_cons (pv 1) pa_nil)) (pe_one (pe_cmpR (op_neE hr.units) (pe_lc (own := [("row", 2)]) rfl sc_DatabaseU_containsU.nd (pi_list (pe_fld (pv 0) rfl)) (blkOk_by (own := [("row", 2)]) (N := ["self", "record", "row"]) (sc := defScope s_DatabaseU_containsU) (by decide +kernel)) (fun _ _ _ _ _ => (pg_name (i := 2) sc_DatabaseU_containsU.nd rfl (Or.inl rfl))) (fun _ _ _ _ _ => (pts_one (PW.pt (pw_and (pt_cmpR op_eq (pe_fldK (K := K) rfl (pv 2) rfl) (pv 1) (nomark _)) (pw_and1 (pt_val (pe_meth (pv 0) T.k_Database T.m_Database_sees G_Database_sees (hr.mono (by decide)) T.b_Database_sees .nil pass0 (pa_cons (pv 2) pa_nil)))))))) (fun _ _ _ _ _ => (pv 2))) (pe_lst pa_nil) (nomark _)))))), ?_⟩
    try dsimp only [cxOf]
    walk_at "rd"
    cases bz : wordB u with
    | false =>
      have e : hasV D u = false := by
        cases u with
        | str z => show (wordS z && _) = false; rw [show wordS z = false from bz]; rfl
        | _ => rfl
      rw [e] at k
      walk_at "rd"
      exact k H (Same.refl H)
    | true =>
      obtain ⟨z, rfl⟩ : ∃ z, u = .str z := by
        cases u <;> first | exact ⟨_, rfl⟩ | cases bz
      have e : hasV D (.str z) = !(foundL D z).isEmpty := by show (wordS z && _) = _; rw [show wordS z = true from bz]; rfl
      rw [e] at k
      walk_at "rd"
      refine ⟨⟨_, SqL.of h2⟩, ?_⟩
      intro S hS
      have hlw : L.ws.length = D.rows.length := hD.rows.len
      refine lc_list (xs := L.ws.map fun w => V.ref w.1) (fun i H' => Same H H' ∧ H' S = some (.lst (hitW D z (L.ws.take i) (D.rows.take i)))) ?_ ?_ ?_ ?_
      · exact ⟨(Same.refl H).new hS, upd_same⟩
      · rintro i H' _ ⟨s1, _⟩
        exact SqL.of (s1 _ _ h2)
      · rintro i v H' hv ⟨s1, hS'⟩
        obtain ⟨w', hw, rfl⟩ := map_ref hv
        obtain ⟨x, hx, hxw⟩ := hD.rows.get hw
        have hxw : H w'.1 = some (.ins a.Write w'.2 (rwF x)) := hxw
        have hx' := s1 _ _ hxw
        have hl : (hitW D z (L.ws.take i) (D.rows.take i)).length < sizeLine := by
          have q1 := hitW_len (D := D) (z := z) (ws := L.ws.take i) (rs := D.rows.take i)
          have q2 := hm.n
          rw [List.length_take] at q1
          rw [sizeLine_eq]; omega
        have hD' : DB a H' L D := hD.keep fun b u _ e => s1 b u e
        have hd' := hD'.db
        rw [hitW_step hw hx]
        walk_at "rd"
        refine ite2 (fun b1 => ?_) (fun b1 => ?_)
        · have q1 : x.rcd = z := V.str.inj (of_decide_eq_true b1)
          walk_at "rd"
          refine ⟨L, D, w', x, rfl, hx', hD', ?_⟩
          have eh : hitR D z x = seesD D x := by unfold hitR; rw [decide_eq_true q1, Bool.true_and]
          rw [eh]
          cases b2 : seesD D x with
          | true =>
            walk_at "rd"
            exact ⟨s1.frsh hS, by rw [if_pos rfl]; exact upd_same⟩
          | false =>
            walk_at "rd"
            rw [if_neg (by simp), List.append_nil]
            exact hS'
        · have q1 : ¬ x.rcd = z := fun e => b1 (decide_eq_true (congrArg V.str e))
          have eh : hitR D z x = false := by unfold hitR; rw [decide_eq_false q1]; rfl
          rw [eh]
          exact ⟨s1, by rw [if_neg (by simp), List.append_nil]; exact hS'⟩
      · rintro H' ⟨s1, hS'⟩
        rw [List.length_map, List.take_length, hlw, List.take_length] at hS'
        walk_at "rd"
        intro n hn
        have sS : Same H (upd H' n (.lst [])) := s1.new hn
        refine ⟨S, n, _, rfl, rfl, SqL.of (upd_old hS' hn), SqL.of upd_same, ?_⟩
        rw [hitW_nil hlw]
        exact k _ sS
/-! ### properties -/
def openD (D : Db) : Bool := match D.stack with
  | some _ :: _ => true
  | _ => false
def reasonD (D : Db) : Option Str := match D.stack with
  | some ⟨_, y :: _⟩ :: _ => y
  | _ => none
def levelsD (D : Db) : Nat := match D.stack with
  | some x :: _ => x.rs.length
  | _ => 0
def spProp (a : Ad) (f : Db → V) : Sp := fun vs H Q _ => ∃ L D, vs = [.ref L.db] ∧ DB a H L D ∧ Sm D ∧ Q (f D) H
theorem ok_Database_is_open (T : Txt K mg a d) : FnOk P w K mg base CX0 1 a.Database_is_open d.Database_is_open ["self"] (spProp a fun D => .bl (openD D)) := by
  refine T.Database_is_open.ok sc_Database_is_open (fun vs H Q E h => ?_) (fun cdv A outer s H vs Q E hr h => ?_)
  · obtain ⟨L, D, rfl, _⟩ := h
    rfl
  · obtain ⟨L, D, rfl, hD, hm, k⟩ := h
    have c1 := T.k_Database
    have n1 := T.na_Database_stack
    have h1 := hD.db
    have h2 := hD.s
    refine ⟨_, (pss_one (ps_ret (pe_cmpR op_notN (pe_ix ix_list (pe_fld (pv 0) rfl) (pe_un un_neg pe_int) (fun _ _ => rfl)) pe_non (nomark _)))), ?_⟩
    dsimp only [cxOf]
    unfold openD at k
    dsimp only at k
    rcases hD.top with ⟨ts, st, et, es⟩ | ⟨t, ts, x, st, y, rs, et, es, ex, h4, h5⟩
    · rw [es] at k
      rw [et] at h2
      have e1 := rv_at (f := tV) (x := none) (l := ts)
      walk_at "rd"
      exact k
    · rw [es] at k
      rw [et] at h2
      have e1 := rv_at (f := tV) (x := some t) (l := ts)
      walk_at "rd"
      exact k
theorem ok_Database_is_doomed (T : Txt K mg a d) : FnOk P w K mg base CX0 1 a.Database_is_doomed d.Database_is_doomed ["self"] (spProp a fun D => .bl (reasonD D).isSome) := by
  refine T.Database_is_doomed.ok sc_Database_is_doomed (fun vs H Q E h => ?_) (fun cdv A outer s H vs Q E hr h => ?_)
  · obtain ⟨L, D, rfl, _⟩ := h
    rfl
  · obtain ⟨L, D, rfl, hD, hm, k⟩ := h
    have c1 := T.k_Database
    have c2 := T.k_Transaction
    have n1 := T.na_Database_stack
    have n3 := T.na_Transaction_reasons
    have h1 := hD.db
    have h2 := hD.s
    refine ⟨_, (pss_one (ps_ret (pe_and (pe_cmpR op_notN (pe_ix ix_list (pe_fld (pv 0) rfl) (pe_un un_neg pe_int) (fun _ _ => rfl)) pe_non (nomark _)) (pe_one (pe_cmpR op_notN (pe_ix ix_list (pe_fld (pe_ix ix_list (pe_fld (pv 0) rfl) (pe_un un_neg pe_int) (fun _ _ => rfl)) rfl) (pe_un un_neg pe_int) (fun _ _ => rfl)) pe_non (nomark _)))))), ?_⟩
    dsimp only [cxOf]
    unfold reasonD at k
    dsimp only at k
    rcases hD.top with ⟨ts, st, et, es⟩ | ⟨t, ts, x, st, y, rs, et, es, ex, h4, h5⟩
    · rw [es] at k
      rw [et] at h2
      have e1 := rv_at (f := tV) (x := none) (l := ts)
      walk_at "rd"
      exact iteF k
    · obtain ⟨n, rs0⟩ := x
      dsimp only at ex
      subst ex
      rw [es] at k
      rw [et] at h2
      have e1 := rv_at (f := tV) (x := some t) (l := ts)
      have e2 := rv_at (f := oV) (x := y) (l := rs)
      walk_at "rd"
      cases y <;> exact k
theorem ok_Database_reason (T : Txt K mg a d) : FnOk P w K mg base CX0 1 a.Database_reason d.Database_reason ["self"] (spProp a fun D => oV (reasonD D)) := by
  refine T.Database_reason.ok sc_Database_reason (fun vs H Q E h => ?_) (fun cdv A outer s H vs Q E hr h => ?_)
  · obtain ⟨L, D, rfl, _⟩ := h
    rfl
  · obtain ⟨L, D, rfl, hD, hm, k⟩ := h
    have c1 := T.k_Database
    have c2 := T.k_Transaction
    have n1 := T.na_Database_stack
    have n3 := T.na_Transaction_reasons
    have h1 := hD.db
    have h2 := hD.s
    refine ⟨_, (pss_one (ps_ret (pe_ifExp (pt_cmpR op_isN (pe_ix ix_list (pe_fld (pv 0) rfl) (pe_un un_neg pe_int) (fun _ _ => rfl)) pe_non (nomark _)) pe_non (pe_ix ix_list (pe_fld (pe_ix ix_list (pe_fld (pv 0) rfl) (pe_un un_neg pe_int) (fun _ _ => rfl)) rfl) (pe_un un_neg pe_int) (fun _ _ => rfl))))), ?_⟩
    dsimp only [cxOf]
    unfold reasonD at k
    dsimp only at k
    rcases hD.top with ⟨ts, st, et, es⟩ | ⟨t, ts, x, st, y, rs, et, es, ex, h4, h5⟩
    · rw [es] at k
      rw [et] at h2
      have e1 := rv_at (f := tV) (x := none) (l := ts)
      walk_at "rd"
      exact iteT k
    · obtain ⟨n, rs0⟩ := x
      dsimp only at ex
      subst ex
      rw [es] at k
      rw [et] at h2
      have e1 := rv_at (f := tV) (x := some t) (l := ts)
      have e2 := rv_at (f := oV) (x := y) (l := rs)
      walk_at "rd"
      exact k
theorem ok_Database_levels (T : Txt K mg a d) : FnOk P w K mg base CX0 1 a.Database_levels d.Database_levels ["self"] (spProp a fun D => .int (levelsD D : Int)) := by
  refine T.Database_levels.ok sc_Database_levels (fun vs H Q E h => ?_) (fun cdv A outer s H vs Q E hr h => ?_)
  · obtain ⟨L, D, rfl, _⟩ := h
    rfl
  · obtain ⟨L, D, rfl, hD, hm, k⟩ := h
    have c1 := T.k_Database
    have c2 := T.k_Transaction
    have n1 := T.na_Database_stack
    have n3 := T.na_Transaction_reasons
    have h1 := hD.db
    have h2 := hD.s
    refine ⟨_, (pss_one (ps_ret (pe_ifExp (pt_cmpR op_isN (pe_ix ix_list (pe_fld (pv 0) rfl) (pe_un un_neg pe_int) (fun _ _ => rfl)) pe_non (nomark _)) pe_int (pe_callB call_len_seq (by rfl) T.n_len PySem.boot_len (pa_cons (pe_fld (pe_ix ix_list (pe_fld (pv 0) rfl) (pe_un un_neg pe_int) (fun _ _ => rfl)) rfl) pa_nil))))), ?_⟩
    dsimp only [cxOf]
    unfold levelsD at k
    dsimp only at k
    rcases hD.top with ⟨ts, st, et, es⟩ | ⟨t, ts, x, st, y, rs, et, es, ex, h4, h5⟩
    · rw [es] at k
      rw [et] at h2
      have e1 := rv_at (f := tV) (x := none) (l := ts)
      walk_at "rd"
      exact iteT k
    · obtain ⟨n, rs0⟩ := x
      dsimp only at ex
      subst ex
      rw [es] at k
      rw [et] at h2
      have e1 := rv_at (f := tV) (x := some t) (l := ts)
      walk_at "rd"
      rw [rv_len]
      exact k
theorem ok_Database_depth (T : Txt K mg a d) : FnOk P w K mg base CX0 1 a.Database_depth d.Database_depth ["self"] (spProp a fun D => .int (D.entered.length : Int)) := by
  refine T.Database_depth.ok sc_Database_depth (fun vs H Q E h => ?_) (fun cdv A outer s H vs Q E hr h => ?_)
  · obtain ⟨L, D, rfl, _⟩ := h
    rfl
  · obtain ⟨L, D, rfl, hD, hm, k⟩ := h
    have c1 := T.k_Database
    have n1 := T.na_Database_entered
    have h1 := hD.db
    have h2 := hD.e
    refine ⟨_, (pss_one (ps_ret (pe_callB call_len_seq (by rfl) T.n_len PySem.boot_len (pa_cons (pe_fld (pv 0) rfl) pa_nil)))), ?_⟩
    dsimp only [cxOf]
    walk_at "rd"
    rw [rv_len]
    exact k
/-! ### fates -/
theorem All2.app {α β : Type} {R : α → β → Prop} {l l' : List α} {m m' : List β} (a : All2 R l m) (b : All2 R l' m') : All2 R (l ++ l') (m ++ m') := by
  induction a with
  | nil => exact b
  | cons r _ ih => exact .cons r ih
def TupAt (H : Hp) (t : Addr) (r : Row) : Prop := H t = some (.tup [.str r.rcd, r.val, .str r.fate])
def spFates (a : Ad) : SpG := fun vs H Q _ => ∃ L D, vs = [.ref L.db] ∧ DB a H L D ∧ Sm D ∧ ∀ H' ts, Same H H' → All2 (TupAt H') ts D.rows → Q (ts.map V.ref) H'
theorem ok_Database_fates (T : Txt K mg a d) : GFn P w K mg base 1 a.Database_fates d.Database_fates ["self"] (spFates a) := by
  refine fun_gen T.Database_fates sc_Database_fates (fun vs H Q E h => ?_) (fun cdv A outer s H vs Q E pn hr h => ?_)
  · obtain ⟨L, D, rfl, _⟩ := h
    rfl
  · obtain ⟨L, D, rfl, hD, hm, k⟩ := h
    have c1 := T.k_Database
    have c3 := T.k_Write
    have n2 := T.na_Database_rows
    have h1 := hD.db
    have h2 := hD.r
    refine ⟨_, (gss_cons (gs_for owns_gcx rfl (pi_list (pe_fld (pv 0) rfl)) (pg_name (i := 1) sc_Database_fates.nd rfl (Or.inl rfl)) (gss_cons (gs_yield (pe_tup (pa_cons (pe_fld (pv 1) rfl) (pa_cons (pe_fld (pv 1) rfl) (pa_cons (pe_fld (pv 1) rfl) pa_nil))))) gss_nil)) gss_nil), ?_⟩
    dsimp only [gcxOf, cxOf]
    have n5 := T.na_Write_fate
    have n7 := T.na_Write_record
    have n8 := T.na_Write_value
    walk_at "rd"
    refine ⟨⟨_, SqL.of h2⟩, ?_⟩
    have hlw : L.ws.length = D.rows.length := hD.rows.len
    refine gfor_list (xs := L.ws.map fun w => V.ref w.1) (fun i ys σ H' => ∃ ts v, Same H H' ∧ All2 (TupAt H') ts (D.rows.take i) ∧ ys = ts.map V.ref ∧ σ = [some (.ref L.db), v]) ?_ ?_ ?_ ?_
    · exact ⟨[], none, Same.refl H, .nil, rfl, rfl⟩
    · rintro i ys σ H' _ ⟨ts, v, s1, _, _, _⟩
      exact SqL.of (s1 _ _ h2)
    · rintro i x ys σ H' hv ⟨ts, v, s1, ha, rfl, rfl⟩
      obtain ⟨w', hw, rfl⟩ := map_ref hv
      obtain ⟨r, hr, hxw⟩ := hD.rows.get hw
      have hxw : H w'.1 = some (.ins a.Write w'.2 (rwF r)) := hxw
      have hx' := s1 _ _ hxw
      have hl : ts.length ≤ 4000 := by
        rw [ha.len, List.length_take]
        have := hm.n
        omega
      refine ⟨by rw [List.length_map, sizeLine_eq]; omega, ?_⟩
      walk_at "rd"
      intro t ht
      refine ⟨ts ++ [t], _, s1.new ht, ?_, ?_, rfl⟩
      · rw [List.take_add_one, hr]
        refine All2.app (ha.imp fun x y _ z => upd_old z ht) (.cons upd_same .nil)
      · rw [List.map_append]; rfl
    · rintro ys σ H' ⟨ts, v, s1, ha, rfl, _⟩
      rw [List.length_map, hlw, List.take_length] at ha
      exact k H' ts s1 ha
/-! ### a database in good order -/
theorem Wf.lenG {es : List Str} {st : List (Option Tx)} (h : Wf es st) : st.length ≤ es.length + 1 ∧ ∀ x, some x ∈ st → x.rs.length ≤ es.length ∧ x.rs ≠ [] := by
  induction h with
  | nil => exact ⟨by simp, fun x m => by simp at m⟩
  | plain h ih =>
    obtain ⟨i1, i2⟩ := ih
    simp only [List.length_cons] at *
    exact ⟨by omega, fun x m => ⟨Nat.le_succ_of_le (i2 x m).1, (i2 x m).2⟩⟩
  | base h ih =>
    obtain ⟨i1, i2⟩ := ih
    simp only [List.length_cons] at *
    refine ⟨by omega, fun x m => ?_⟩
    rcases List.mem_cons.mp m with m | m
    · cases m
      exact ⟨by simp, by simp⟩
    · exact ⟨Nat.le_succ_of_le (i2 x m).1, (i2 x m).2⟩
  | level h ih =>
    obtain ⟨i1, i2⟩ := ih
    simp only [List.length_cons] at *
    refine ⟨by omega, fun x m => ?_⟩
    rcases List.mem_cons.mp m with m | m
    · cases m
      have := (i2 _ List.mem_cons_self).1
      simp only [List.length_cons] at *
      exact ⟨by omega, by simp⟩
    · have := i2 x (List.mem_cons_of_mem _ m)
      exact ⟨Nat.le_succ_of_le this.1, this.2⟩
  | joined h ih =>
    obtain ⟨i1, i2⟩ := ih
    simp only [List.length_cons] at *
    exact ⟨by omega, fun x m => ⟨Nat.le_succ_of_le (i2 x m).1, (i2 x m).2⟩⟩
  | outside h ih =>
    obtain ⟨i1, i2⟩ := ih
    simp only [List.length_cons] at *
    refine ⟨by omega, fun x m => ?_⟩
    rcases List.mem_cons.mp m with m | m
    · cases m
    · exact ⟨Nat.le_succ_of_le (i2 x m).1, (i2 x m).2⟩
theorem Wf.topG {es : List Str} {st : List (Option Tx)} {n : Int} {y z : Option Str} {rs : List (Option Str)} (h : Wf es (some ⟨n, y :: rs⟩ :: st)) : Wf es (some ⟨n, z :: rs⟩ :: st) := by
  generalize e : (some ⟨n, y :: rs⟩ :: st : List (Option Tx)) = q at h
  induction h with
  | nil => cases e
  | plain h ih => cases e
  | base h ih =>
    cases e
    exact .base h
  | level h ih =>
    cases e
    exact .level h
  | joined h ih =>
    cases e
    exact .joined (ih rfl)
  | outside h ih => cases e
def RdOk (r : Row) : Prop := IsWord r.rcd ∧ (∃ i : Int, r.val = .int i ∧ i.natAbs < 2 ^ 120) ∧ (r.fate = "open" ∨ r.fate = "kept" ∨ r.fate = "undone")
structure Gd (D : Db) (m : Nat) : Prop where
  wf : Wf D.entered D.stack
  fl : 0 ≤ D.floor
  e : D.entered.length ≤ m
  w : ∀ x, some x ∈ D.stack → ∀ z, some z ∈ x.rs → IsWord z
  rd : ∀ r ∈ D.rows, RdOk r
  r : D.rows.length ≤ m
section
variable {D : Db} {m : Nat}
theorem Gd.sm (g : Gd D m) (h : m ≤ 3000) : Sm D := by
  have := g.e
  have := g.r
  obtain ⟨h1, h2⟩ := g.wf.lenG
  exact ⟨by omega, by omega, fun x m => by have := (h2 x m).1; omega, by omega⟩
theorem Gd.up {k : Nat} (g : Gd D m) (h : m ≤ k) : Gd D k := { g with e := Nat.le_trans g.e h, r := Nat.le_trans g.r h }
theorem gd_new : Gd ⟨[], [none], [], 0, 0⟩ 0 := ⟨.nil, Int.le_refl 0, Nat.le_refl 0, (fun x h => by simp at h), (fun r h => nomatch h), Nat.le_refl 0⟩
theorem Gd.plain (g : Gd D m) {z : Str} (h : Wf (z :: D.entered) D.stack) : Gd (plainD D z) (m + 1) :=
  ⟨h, g.fl, Nat.succ_le_succ g.e, g.w, g.rd, Nat.le_succ_of_le g.r⟩
theorem Gd.begin (g : Gd D m) : Gd (beginD D) (m + 1) := by
  refine ⟨.base g.wf, g.fl, Nat.succ_le_succ g.e, fun x hx z hz => ?_, g.rd, Nat.le_succ_of_le g.r⟩
  rcases List.mem_cons.mp hx with e | e
  · cases e
    simp at hz
  · exact g.w x e z hz
theorem Gd.top (g : Gd D m) : (∃ st, D.stack = none :: st) ∨ ∃ k y rs st, D.stack = some ⟨k, y :: rs⟩ :: st := by
  have ne := g.wf.ne
  have l2 := g.wf.lenG.2
  generalize D.stack = s at ne l2
  cases s with
  | nil => exact absurd rfl ne
  | cons t st =>
    cases t with
    | none => exact .inl ⟨st, rfl⟩
    | some x =>
      obtain ⟨k, rs⟩ := x
      cases rs with
      | nil => exact absurd rfl (l2 _ List.mem_cons_self).2
      | cons y rs => exact .inr ⟨k, y, rs, st, rfl⟩
theorem Gd.enter (g : Gd D m) (v : V) : Gd (enterV D v).1 (m + 1) := by
  unfold enterV
  by_cases c : modeB v = true
  · rw [if_pos c]
    cases v with
    | str s =>
      dsimp only
      unfold enterD
      rcases g.top with ⟨st, e⟩ | ⟨k, y, rs, st, e⟩
      · rw [e]
        dsimp only
        unfold aloneD
        by_cases c1 : decide (V.str s = V.str "must") = true
        · rw [if_pos c1]; exact g.up (Nat.le_succ _)
        rw [if_neg c1]
        by_cases c2 : inV (.str s) [.str "either", .str "never", .str "outside"] = true
        · rw [if_pos c2]
          exact g.plain (by have := g.wf; rw [e] at this ⊢; exact .plain this)
        rw [if_neg c2]
        exact g.begin
      · rw [e]
        dsimp only
        unfold lvlD
        have wf := g.wf
        rw [e] at wf
        have gw := g.w
        rw [e] at gw
        by_cases c1 : inV (.str s) [.str "never", .str "alone"] = true
        · rw [if_pos c1]; exact g.up (Nat.le_succ _)
        rw [if_neg c1]
        by_cases c2 : decide (V.str s = V.str "inner") = true
        · rw [if_pos c2]
          cases y with
          | some z => exact g.up (Nat.le_succ _)
          | none =>
            refine ⟨.level wf, g.fl, Nat.succ_le_succ g.e, fun x hx z hz => ?_, g.rd, Nat.le_succ_of_le g.r⟩
            rcases List.mem_cons.mp hx with q | q
            · cases q
              refine gw ⟨k, none :: rs⟩ List.mem_cons_self z ?_
              rcases List.mem_cons.mp hz with q | q
              · cases q
              · exact q
            · exact gw x (List.mem_cons_of_mem _ q) z hz
        rw [if_neg c2]
        by_cases c3 : decide (V.str s = V.str "apart") = true
        · rw [if_pos c3]; exact g.begin
        rw [if_neg c3]
        by_cases c4 : decide (V.str s = V.str "outside") = true
        · rw [if_pos c4]
          refine ⟨?_, g.fl, Nat.succ_le_succ g.e, fun x hx z hz => ?_, g.rd, Nat.le_succ_of_le g.r⟩
          · show Wf ("outside" :: D.entered) (none :: D.stack)
            rw [e]; exact .outside wf
          · rcases List.mem_cons.mp hx with q | q
            · cases q
            · exact g.w x q z hz
        rw [if_neg c4]
        exact g.plain (by rw [e]; exact .joined wf)
    | _ => exact g.up (Nat.le_succ _)
  · rw [if_neg c]; exact g.up (Nat.le_succ _)
theorem Gd.doom (g : Gd D m) {z : Str} (h : IsWord z) : Gd (doomD D z) m := by
  unfold doomD
  rcases g.top with ⟨st, e⟩ | ⟨k, y, rs, st, e⟩
  · rw [e]; exact g
  · have wf := g.wf
    have gw := g.w
    rw [e] at wf gw ⊢
    cases y with
    | some y => exact g
    | none =>
      refine ⟨wf.topG, g.fl, g.e, fun x hx z' hz => ?_, g.rd, g.r⟩
      rcases List.mem_cons.mp hx with q | q
      · cases q
        rcases List.mem_cons.mp hz with q | q
        · cases q; exact h
        · exact gw ⟨k, none :: rs⟩ List.mem_cons_self z' (List.mem_cons_of_mem _ q)
      · exact gw x (List.mem_cons_of_mem _ q) z' hz
theorem RdOk.lvl {n t : Int} {ok : Bool} {r : Row} (h : RdOk r) : RdOk (endLRow n t ok r) := by
  unfold endLRow
  split
  · split
    · exact h
    · exact ⟨h.1, h.2.1, .inr (.inr rfl)⟩
  · exact h
theorem RdOk.tx {n : Int} {c : Bool} {r : Row} (h : RdOk r) : RdOk (endTRow n (if c = true then "kept" else "undone") r) := by
  unfold endTRow
  split
  · exact ⟨h.1, h.2.1, by cases c; exact .inr (.inr rfl); exact .inr (.inl rfl)⟩
  · exact h
theorem Gd.leave (g : Gd D m) {err : Option Str} {c : Bool} (h : ∀ z, err = some z → IsWord z) : Gd (leaveD D err c).1 m := by
  unfold leaveD
  split
  · exact g
  unfold leaveW
  cases hent : D.entered with
  | nil => exact g
  | cons e es =>
    dsimp only
    have wf := g.wf
    have gw := g.w
    have ge := g.e
    rw [hent] at wf ge
    have ge2 : es.length ≤ m := Nat.le_of_succ_le ge
    clear ge
    generalize est : D.stack = stk at wf gw
    cases wf with
    | plain w =>
      rw [if_neg (by decide +kernel), if_neg (by decide +kernel), if_neg (by decide +kernel), if_neg (by decide +kernel)]
      exact ⟨w, g.fl, ge2, gw, g.rd, g.r⟩
    | outside w =>
      rw [if_pos rfl]
      exact ⟨w, g.fl, ge2, fun x hx => gw x (List.mem_cons_of_mem _ hx), g.rd, g.r⟩
    | joined w =>
      rw [if_neg (by decide +kernel), if_pos rfl]
      have g' : Gd ⟨D.rows, _, es, D.floor, D.opened⟩ m := ⟨w, g.fl, ge2, gw, g.rd, g.r⟩
      cases err with
      | none => exact g'
      | some z =>
        exact g'.doom (h z rfl)
    | @level _ st n y z rs w =>
      rw [if_neg (by decide +kernel), if_neg (by decide +kernel), if_pos rfl]
      unfold endLD
      dsimp only
      refine ⟨w, g.fl, ge2, fun x hx z' hz => ?_, fun r hr => ?_, ?_⟩
      · rcases List.mem_cons.mp hx with q | q
        · cases q
          exact gw ⟨n, y :: z :: rs⟩ List.mem_cons_self z' (List.mem_cons_of_mem _ hz)
        · exact gw x (List.mem_cons_of_mem _ q) z' hz
      · obtain ⟨r0, h0, rfl⟩ := List.mem_map.mp hr
        exact (g.rd r0 h0).lvl
      · show (D.rows.map _).length ≤ m
        rw [List.length_map]; exact g.r
    | @base _ st n y w =>
      rw [if_neg (by decide +kernel), if_neg (by decide +kernel), if_neg (by decide +kernel), if_pos rfl]
      unfold endTD
      dsimp only
      refine ⟨w, g.fl, ge2, fun x hx => gw x (List.mem_cons_of_mem _ hx), fun r hr => ?_, ?_⟩
      · obtain ⟨r0, h0, rfl⟩ := List.mem_map.mp hr
        exact (g.rd r0 h0).tx
      · show (D.rows.map _).length ≤ m
        rw [List.length_map]; exact g.r
theorem Gd.add (g : Gd D m) {r : Row} (h : RdOk r) : Gd (addD D r) (m + 1) := by
  refine ⟨g.wf, g.fl, Nat.le_succ_of_le g.e, g.w, fun x hx => ?_, ?_⟩
  · rcases List.mem_append.mp hx with q | q
    · exact g.rd x q
    · exact List.mem_singleton.mp q ▸ h
  · show (D.rows ++ [r]).length ≤ m + 1
    rw [List.length_append]; exact Nat.succ_le_succ g.r
theorem Gd.write (g : Gd D m) {z : Str} {i : Int} (h : IsWord z) (hi : i.natAbs < 2 ^ 120) : Gd (writeD D z (.int i)).1 (m + 1) := by
  unfold writeD
  rcases g.top with ⟨st, e⟩ | ⟨k, y, rs, st, e⟩
  · rw [e]
    dsimp only
    split
    · exact g.up (Nat.le_succ _)
    · exact g.add ⟨h, ⟨i, rfl, hi⟩, .inr (.inl rfl)⟩
  · rw [e]
    dsimp only
    cases y with
    | some y => exact g.up (Nat.le_succ _)
    | none =>
      dsimp only
      split
      · exact g.up (Nat.le_succ _)
      · exact g.add ⟨h, ⟨i, rfl, hi⟩, .inl rfl⟩
end
/-! ### kept_values -/
def keptS (kvs : List (Key × V)) (r : Row) : List (Key × V) := if r.fate = "kept" then putK kvs (.inr r.rcd) r.val else kvs
def keptK (rows : List Row) : List (Key × V) := rows.foldl keptS []
theorem putK_keysG {kvs : List (Key × V)} {k : Key} {v : V} : (putK kvs k v).map (·.1) = if (valV kvs k).isSome = true then kvs.map (·.1) else kvs.map (·.1) ++ [k] := by
  unfold putK
  rw [valV_any]
  cases valV kvs k with
  | none =>
    rw [if_neg (by simp), if_neg (by simp), List.map_append]; rfl
  | some y =>
    rw [if_pos (show (some y).isSome = true from rfl), if_pos (show (some y).isSome = true from rfl), List.map_map]
    refine List.map_congr_left fun kv _ => ?_
    show (if kv.1 = k then (kv.1, v) else kv).1 = kv.1
    split <;> rfl
theorem put_strs {kvs : List (Key × V)} {z : Str} {v : V} {xs : List Str} (h : kvs.map (·.1) = xs.map Sum.inr) : ∃ ys : List Str, (putK kvs (.inr z) v).map (·.1) = ys.map Sum.inr ∧ (∀ y ∈ ys, y ∈ xs ∨ y = z) ∧ ys.length ≤ xs.length + 1 := by
  rw [putK_keysG]
  split
  · exact ⟨xs, h, fun y hy => .inl hy, Nat.le_succ _⟩
  · refine ⟨xs ++ [z], by rw [h, List.map_append]; rfl, fun y hy => ?_, by rw [List.length_append]; exact Nat.le_refl _⟩
    rcases List.mem_append.mp hy with hy | hy
    · exact .inl hy
    · exact .inr (List.mem_singleton.mp hy)
theorem kept_fold : ∀ (rows : List Row) (kvs : List (Key × V)) (xs : List Str), kvs.map (·.1) = xs.map Sum.inr → ∃ ys : List Str, (rows.foldl keptS kvs).map (·.1) = ys.map Sum.inr ∧ (∀ z ∈ ys, z ∈ xs ∨ ∃ r ∈ rows, r.rcd = z) ∧ ys.length ≤ xs.length + rows.length
  | [], kvs, xs, h => ⟨xs, h, fun z hz => .inl hz, Nat.le_refl _⟩
  | r :: rs, kvs, xs, h => by
    obtain ⟨ys, e, m, l⟩ : ∃ ys : List Str, (keptS kvs r).map (·.1) = ys.map Sum.inr ∧ (∀ y ∈ ys, y ∈ xs ∨ y = r.rcd) ∧ ys.length ≤ xs.length + 1 := by
      unfold keptS
      split
      · exact put_strs h
      · exact ⟨xs, h, fun y hy => .inl hy, Nat.le_succ _⟩
    obtain ⟨zs, e2, m2, l2⟩ := kept_fold rs _ ys e
    refine ⟨zs, e2, fun z hz => ?_, by rw [List.length_cons]; omega⟩
    rcases m2 z hz with q | ⟨r', q1, q2⟩
    · rcases m z q with q | q
      · exact .inl q
      · exact .inr ⟨r, List.mem_cons_self, q.symm⟩
    · exact .inr ⟨r', List.mem_cons_of_mem _ q1, q2⟩
theorem kept_take {rows : List Row} {i : Nat} {x : Row} (h : rows[i]? = some x) : keptK (rows.take (i + 1)) = keptS (keptK (rows.take i)) x := by
  unfold keptK
  rw [List.take_add_one, h, List.foldl_append]; rfl
theorem kept_len : ∀ (rows : List Row) (kvs : List (Key × V)), (rows.foldl keptS kvs).length ≤ kvs.length + rows.length
  | [], kvs => Nat.le_refl _
  | r :: rs, kvs => by
    have h := kept_len rs (keptS kvs r)
    have h2 : (keptS kvs r).length ≤ kvs.length + 1 := by
      unfold keptS
      split
      · exact length_putK _ _ _
      · exact Nat.le_succ _
    rw [List.foldl_cons, List.length_cons]; omega
def strK (kvs : List (Key × V)) : List Str := (kvs.map (·.1)).filterMap Sum.getRight?
theorem strK_of {kvs : List (Key × V)} {xs : List Str} (h : kvs.map (·.1) = xs.map Sum.inr) : strK kvs = xs := by
  unfold strK
  rw [h, List.filterMap_map]
  exact List.filterMap_some
def ordS (kvs acc : List (Key × V)) (z : Str) : List (Key × V) := putK acc (.inr z) ((valV kvs (.inr z)).getD .non)
def ordK (kvs : List (Key × V)) : List (Key × V) := (sortT (strK kvs)).foldl (ordS kvs) []
def keptD (D : Db) : List (Key × V) := ordK (keptK D.rows)
theorem ord_len {kvs : List (Key × V)} : ∀ (xs : List Str) (acc : List (Key × V)), (xs.foldl (ordS kvs) acc).length ≤ acc.length + xs.length
  | [], acc => Nat.le_refl _
  | z :: xs, acc => by
    have h := ord_len (kvs := kvs) xs (ordS kvs acc z)
    have h2 : (ordS kvs acc z).length ≤ acc.length + 1 := length_putK _ _ _
    rw [List.foldl_cons, List.length_cons]; omega
theorem val_some {kvs : List (Key × V)} {xs : List Str} {z : Str} (h : kvs.map (·.1) = xs.map Sum.inr) (hz : z ∈ xs) : ∃ v, valV kvs (.inr z) = some v := by
  have : (valV kvs (.inr z)).isSome = true := by
    rw [← valV_any, List.any_eq_true]
    have m : (Sum.inr z : Key) ∈ kvs.map (·.1) := by rw [h]; exact List.mem_map.mpr ⟨z, hz, rfl⟩
    obtain ⟨p, hp, e⟩ := List.mem_map.mp m
    exact ⟨p, hp, decide_eq_true e⟩
  exact Option.isSome_iff_exists.mp this
def spKept (a : Ad) : Sp := fun vs H Q _ => ∃ L D, vs = [.ref L.db] ∧ DB a H L D ∧ Sm D ∧ ∀ H' q, Same H H' → H' q = some (.dK (keptD D)) → H q = none → Q (.ref q) H'
theorem ok_Database_kept_values (T : Txt K mg a d) : FnOk P w K mg base CX0 1 a.Database_kept_values d.Database_kept_values ["self"] (spKept a) := by
  refine T.Database_kept_values.ok sc_Database_kept_values (fun vs H Q E h => ?_) (fun cdv A outer s H vs Q E hr h => ?_)
  · obtain ⟨L, D, rfl, _⟩ := h
    rfl
  · obtain ⟨L, D, rfl, hD, hm, k⟩ := h
    have c1 := T.k_Database
    have c3 := T.k_Write
    have n2 := T.na_Database_rows
    have n5 := T.na_Write_fate
    have n7 := T.na_Write_record
    have n8 := T.na_Write_value
    have hlw : L.ws.length = D.rows.length := hD.rows.len
    refine ⟨_, (pss_cons (ps_set (i := 1) sc_Database_kept_values.nd rfl (Or.inr rfl) pe_dnewK)
  (pss_cons (ps_for PassesOwn.never rfl (pi_list (pe_fld (pv 0) rfl)) (pg_name (i := 2) sc_Database_kept_values.nd rfl (Or.inl rfl))
  (pss_one (ps_if (pt_cmpR op_eq (pe_fld (pv 2) rfl) pe_str (nomark _)) (pss_one (ps_dput (hu_of hr) (pv 1) (pe_fld (pv 2) rfl) (pe_fld (pv 2) rfl) rfl)) pss_nil)))
  (pss_one (ps_ret (pe_dc (own := [("record", 3)]) (tt := tYes) rfl sc_Database_kept_values.nd (pi_list (pe_callB (cr_sortDK rfl) (by rfl) T.n_sorted (by decide +kernel) (pa_cons (pv 1) pa_nil))) (blkOk_by (own := [("record", 3)]) (N := ["self", "last", "row", "record"]) (sc := defScope s_Database_kept_values) (by decide +kernel)) (fun _ _ _ _ _ => (pg_name (i := 3) sc_Database_kept_values.nd rfl (Or.inl rfl))) (fun _ _ _ _ _ => pts_nil) (fun _ _ _ _ _ => (pv 3)) (fun _ _ _ _ _ => (pe_dget (hu_of hr) (pv 1) (pv 3) (fun _ _ => rfl)))))))), ?_⟩
    dsimp only [cxOf]
    walk_at "rd"
    intro q hq
    have h1 := upd_old (o := .dK []) hD.db hq
    have h2 := upd_old (o := .dK []) hD.r hq
    walk_at "rd"
    refine ⟨⟨_, SqL.of h2⟩, ?_⟩
    refine for_list (xs := L.ws.map fun w => V.ref w.1) (fun i σ H' => Kp (fun b => b = q) H H' ∧ H' q = some (.dK (keptK (D.rows.take i))) ∧ ∃ v2 v3, σ = [some (.ref L.db), some (.ref q), v2, v3]) ?_ ?_ ?_ ?_
    · exact ⟨Kp.refl.fresh hq, upd_same, _, _, rfl⟩
    · rintro i σ H' _ ⟨kp, _⟩
      exact SqL.of (kp _ _ hD.r (ne_of_none hD.r hq))
    · rintro i v σ H' hv ⟨kp, hq', v2, v3, rfl⟩
      obtain ⟨w', hw, rfl⟩ := map_ref hv
      obtain ⟨x, hx, hxw⟩ := hD.rows.get hw
      have hxw : H w'.1 = some (.ins a.Write w'.2 (rwF x)) := hxw
      have hx' := kp _ _ hxw (ne_of_none hxw hq)
      have hl : (keptK (D.rows.take i)).length < sizeLine := by
        have z1 := kept_len (D.rows.take i) []
        have z2 := hm.n
        have z3 : (D.rows.take i).length ≤ D.rows.length := by rw [List.length_take]; omega
        rw [sizeLine_eq]
        show (List.foldl keptS [] (D.rows.take i)).length < _
        simp only [List.length_nil] at z1
        omega
      rw [kept_take hx]
      walk_at "rd"
      refine ite2 (fun b1 => ?_) (fun b1 => ?_)
      · have q1 : x.fate = "kept" := V.str.inj (of_decide_eq_true b1)
        have dp := DPut.k (k := Sum.inr x.rcd) (v := x.val) hq' hl
        rw [show keptS (keptK (D.rows.take i)) x = putK (keptK (D.rows.take i)) (.inr x.rcd) x.val from if_pos q1]
        walk_at "rd"
        exact ⟨_, rfl, dp, kp.set1, upd_same, _, _, rfl⟩
      · have q1 : ¬ x.fate = "kept" := fun e => b1 (decide_eq_true (congrArg V.str e))
        rw [show keptS (keptK (D.rows.take i)) x = keptK (D.rows.take i) from if_neg q1]
        walk_at "rd"
        exact ⟨_, _, rfl⟩
    · rintro σ H' ⟨kp, hq', v2, v3, rfl⟩
      rw [List.length_map, hlw, List.take_length] at hq'
      have sm : Same H H' := Kp.same (Same.refl H) kp fun c e => e ▸ hq
      obtain ⟨xs, e, mx, lx⟩ := kept_fold D.rows [] [] rfl
      have e : (keptK D.rows).map (·.1) = xs.map Sum.inr := e
      have lx : xs.length ≤ 4000 := by
        have := hm.n
        simp only [List.length_nil] at lx
        omega
      have kd : keptD D = (sortT xs).foldl (ordS (keptK D.rows)) [] := by
        unfold keptD ordK
        rw [strK_of e]
      walk_at "rd"
      intro p hp
      have hp1 := upd_same (H := H') (a := p) (o := .lst ((sortT xs).map V.str))
      have hq1 := upd_old (o := .lst ((sortT xs).map V.str)) hq' hp
      have s1 := sm.new (o := .lst ((sortT xs).map V.str)) hp
      generalize upd H' p (.lst ((sortT xs).map V.str)) = H1 at hp1 hq1 s1 ⊢
      walk_at "rd"
      refine ⟨⟨_, SqL.of hp1⟩, ?_⟩
      intro S hS
      refine dc_list (xs := (sortT xs).map V.str) (fun i H2 => Kp (fun b => b = S) H1 H2 ∧ H2 S = some (.dK (((sortT xs).take i).foldl (ordS (keptK D.rows)) []))) ?_ ?_ ?_ ?_
      · exact ⟨Kp.refl.fresh hS, upd_same⟩
      · rintro i H2 _ ⟨kp2, _⟩
        exact SqL.of (kp2 _ _ hp1 (ne_of_none hp1 hS))
      · rintro i v H2 hv ⟨kp2, hS2⟩
        rw [List.getElem?_map] at hv
        obtain ⟨z, hz, rfl⟩ : ∃ z, (sortT xs)[i]? = some z ∧ v = .str z := by
          cases e : (sortT xs)[i]? with
          | none => rw [e] at hv; cases hv
          | some z => rw [e] at hv; cases hv; exact ⟨z, rfl, rfl⟩
        obtain ⟨v, hvz⟩ := val_some e (sortT_mem.mp (List.mem_of_getElem? hz))
        have hq2 := kp2 _ _ hq1 (ne_of_none hq1 hS)
        have dg : DGet H2 q (V.str z) (some v) := hvz ▸ DGet.k (k := Sum.inr z) hq2
        have hl : (((sortT xs).take i).foldl (ordS (keptK D.rows)) []).length < sizeLine := by
          have z1 := ord_len (kvs := keptK D.rows) ((sortT xs).take i) []
          rw [List.length_take, sortT_len] at z1
          rw [sizeLine_eq]
          simp only [List.length_nil] at z1
          omega
        have st : ((sortT xs).take (i + 1)).foldl (ordS (keptK D.rows)) [] = putK (((sortT xs).take i).foldl (ordS (keptK D.rows)) []) (.inr z) v := by
          rw [List.take_add_one, hz, List.foldl_append]
          show ordS _ _ z = _
          unfold ordS
          rw [hvz]; rfl
        rw [st]
        walk_at "rd"
        case h.w => exact (Sum.inr z : Key)
        exact ⟨rfl, hS2, hl, kp2.set1, upd_same⟩
      · rintro H2 ⟨kp2, hS2⟩
        rw [List.length_map, List.take_length, ← kd] at hS2
        exact k _ S (s1.trans (Kp.same (Same.refl H1) kp2 fun c e => e ▸ hS)) hS2 (s1.free hS)
/-! ### several databases and cells (lists, dicts, tuples), apart from one another -/
theorem get_set {α : Type} {l : List α} {i j : Nat} {x y : α} (h : (l.set i x)[j]? = some y) : (j = i ∧ y = x) ∨ (j ≠ i ∧ l[j]? = some y) := by
  rw [List.getElem?_set] at h
  by_cases e : i = j
  · rw [if_pos e] at h
    split at h
    · exact .inl ⟨e.symm, (Option.some.inj h).symm⟩
    · cases h
  · rw [if_neg e] at h
    exact .inr ⟨fun z => e z.symm, h⟩
theorem get_app {α : Type} {l : List α} {j : Nat} {x y : α} (h : (l ++ [x])[j]? = some y) : (j = l.length ∧ y = x) ∨ (j ≠ l.length ∧ l[j]? = some y) := by
  rcases Nat.lt_trichotomy j l.length with lt | eq | gt
  · rw [List.getElem?_append_left lt] at h
    exact .inr ⟨by omega, h⟩
  · subst eq
    rw [List.getElem?_append_right (Nat.le_refl _), Nat.sub_self] at h
    exact .inl ⟨rfl, (Option.some.inj h).symm⟩
  · rw [List.getElem?_append_right (by omega)] at h
    have : j - l.length ≠ 0 := by omega
    cases e : j - l.length with
    | zero => exact absurd e this
    | succ k => rw [e] at h; simp at h
structure Wd (a : Ad) (H0 H : Hp) (ds : List (Lay × Db)) (cs : List (Addr × HO)) : Prop where
  same : Same H0 H
  db : ∀ (j : Nat) (x : Lay × Db), ds[j]? = some x → DB a H x.1 x.2
  df : ∀ (j : Nat) (x : Lay × Db), ds[j]? = some x → ∀ b, Mut x.1 b → H0 b = none
  dd : ∀ (i j : Nat) (x y : Lay × Db), ds[i]? = some x → ds[j]? = some y → i ≠ j → ∀ b, Mut x.1 b → ¬ Mut y.1 b
  cl : ∀ (i : Nat) (y : Addr × HO), cs[i]? = some y → H y.1 = some y.2
  ci : ∀ (i : Nat) (y : Addr × HO), cs[i]? = some y → ∀ C dx fs, y.2 ≠ .ins C dx fs
  cf : ∀ (i : Nat) (y : Addr × HO), cs[i]? = some y → H0 y.1 = none
  cc : ∀ (i j : Nat) (y z : Addr × HO), cs[i]? = some y → cs[j]? = some z → i ≠ j → y.1 ≠ z.1
  dc : ∀ (i j : Nat) (x : Lay × Db) (y : Addr × HO), ds[i]? = some x → cs[j]? = some y → ¬ Mut x.1 y.1
section
variable {a : Ad} {H0 H H' : Hp} {ds : List (Lay × Db)} {cs : List (Addr × HO)}
theorem DbAt.kpN {S : Addr → Prop} {aD aT aW : Addr} {L : Lay} {D : Db} (h : DbAt aD aT aW H L D) (k : Kp S H H') (n : ∀ b, S b → ¬ Mut L b ∧ ∀ dx n q, H b ≠ some (.ins aT dx (txF n q))) : DbAt aD aT aW H' L D := by
  refine h.keep fun b u f e => k b u e fun z => ?_
  rcases f with f | ⟨t, m, rfl⟩
  · exact (n b z).1 f
  · obtain ⟨x, h1, _⟩ := h.tx m
    exact (n _ z).2 _ _ _ h1
/-- a transaction's object is none of what may change in a database -/
theorem DbAt.txN {aD aT aW : Addr} {L : Lay} {D : Db} (h : DbAt aD aT aW H L D) {b : Addr} (m : Mut L b) (dx : Addr) (n : Int) (q : Addr) : H b ≠ some (.ins aT dx (txF n q)) := fun e => by
  rcases m with rfl | rfl | rfl | rfl | ⟨t, m, rfl⟩ | ⟨w, m, rfl⟩
  · rw [h.db] at e
    injection e with e
    injection e with _ _ e
    exact absurd (congrArg List.length e) (by simp)
  · rw [h.r] at e; cases e
  · rw [h.s] at e; cases e
  · rw [h.e] at e; cases e
  · obtain ⟨x, _, h2, _⟩ := h.tx m
    rw [h2] at e; cases e
  · obtain ⟨x, h1⟩ := h.row m
    rw [h1] at e
    injection e with e
    injection e with _ _ e
    exact absurd (congrArg List.length e) (by simp)
theorem wd_new : Wd a H H [] [] := ⟨Same.refl H, by simp, by simp, by simp, by simp, by simp, by simp, by simp, by simp⟩
theorem Wd.keep (h : Wd a H0 H ds cs) (k : Same H H') : Wd a H0 H' ds cs :=
  ⟨h.same.trans k, fun j x e => (h.db j x e).keep fun b u _ e => k b u e, h.df, h.dd, fun i y e => k _ _ (h.cl i y e), h.ci, h.cf, h.cc, h.dc⟩
theorem Wd.onto {B : Hp} (h : Wd a H0 H ds cs) (s1 : Same B H0) : Wd a B H ds cs :=
  ⟨s1.trans h.same, h.db, fun j x e b m => s1.free (h.df j x e b m), h.dd, h.cl, h.ci, fun i y e => s1.free (h.cf i y e), h.cc, h.dc⟩
/-- the cell i is changed -/
theorem Wd.putC {i : Nat} {p : Addr} {o o' : HO} (h : Wd a H0 H ds cs) (e : cs[i]? = some (p, o)) (k : Kp (fun b => b = p) H H') (e' : H' p = some o') (ni : ∀ C dx fs, o' ≠ .ins C dx fs) : Wd a H0 H' ds (cs.set i (p, o')) := by
  refine ⟨Kp.same h.same k fun b q => q ▸ h.cf i _ e, fun j x ej => (h.db j x ej).kpN k fun b q => ⟨q ▸ h.dc j i x _ ej e, fun dx n qq z => ?_⟩, h.df, h.dd, ?_, ?_, ?_, ?_, ?_⟩
  · rw [q, h.cl i _ e] at z
    exact h.ci i _ e _ _ _ (Option.some.inj z)
  · intro j y ej
    rcases get_set ej with ⟨_, rfl⟩ | ⟨n, ej⟩
    · exact e'
    · exact k _ _ (h.cl j y ej) (h.cc j i y _ ej e n)
  · intro j y ej
    rcases get_set ej with ⟨_, rfl⟩ | ⟨n, ej⟩
    · exact ni
    · exact h.ci j y ej
  · intro j y ej
    rcases get_set ej with ⟨_, rfl⟩ | ⟨n, ej⟩
    · exact h.cf i (p, o) e
    · exact h.cf j y ej
  · intro j l y z ej el n
    rcases get_set ej with ⟨q1, rfl⟩ | ⟨n1, ej⟩ <;> rcases get_set el with ⟨q2, rfl⟩ | ⟨n2, el⟩
    · exact absurd (q1.trans q2.symm) n
    · exact h.cc i l (p, o) z e el (fun q => n2 q.symm)
    · exact h.cc j i y (p, o) ej e n1
    · exact h.cc j l y z ej el n
  · intro j l x y ej el
    rcases get_set el with ⟨q2, rfl⟩ | ⟨n2, el⟩
    · exact h.dc j i x (p, o) ej e
    · exact h.dc j l x y ej el
theorem Wd.setC {i : Nat} {p : Addr} {o : HO} (o' : HO) (h : Wd a H0 H ds cs) (e : cs[i]? = some (p, o)) (ni : ∀ C dx fs, o' ≠ .ins C dx fs) : Wd a H0 (upd H p o') ds (cs.set i (p, o')) :=
  h.putC e Kp.refl.set1 upd_same ni
/-- the database j is changed -/
theorem Wd.putD {j : Nat} {L L' : Lay} {D D' : Db} (h : Wd a H0 H ds cs) (e : ds[j]? = some (L, D)) (hD : DB a H' L' D') (f : Fr H H' L L') : Wd a H0 H' (ds.set j (L', D')) cs := by
  have mt : ∀ b, Mut L' b → Mut L b ∨ H b = none := f.mt
  refine ⟨fun b u q => f.kp b u (h.same b u q) fun z => ?_, ?_, ?_, ?_, fun i y q => f.kp _ _ (h.cl i y q) (h.dc j i _ y e q), h.ci, h.cf, h.cc, ?_⟩
  · rw [h.df j _ e b z] at q; cases q
  · intro i x q
    rcases get_set q with ⟨_, rfl⟩ | ⟨n, q⟩
    · exact hD
    · exact (h.db i x q).kpN f.kp fun b m => ⟨h.dd j i _ x e q (fun z => n z.symm) b m, fun dx nn qq => (h.db j _ e).txN m dx nn qq⟩
  · intro i x q b m
    rcases get_set q with ⟨_, rfl⟩ | ⟨n, q⟩
    · rcases mt b m with z | z
      · exact h.df j _ e b z
      · exact h.same.free z
    · exact h.df i x q b m
  · intro i l x y q1 q2 n b m1 m2
    rcases get_set q1 with ⟨n1, rfl⟩ | ⟨n1, q1⟩ <;> rcases get_set q2 with ⟨n2, rfl⟩ | ⟨n2, q2⟩
    · exact n (n1.trans n2.symm)
    · rcases mt b m1 with z | z
      · exact h.dd j l _ y e q2 (fun z => n2 z.symm) b z m2
      · exact (h.db l y q2).fresh z m2
    · rcases mt b m2 with z | z
      · exact h.dd i j x _ q1 e n1 b m1 z
      · exact (h.db i x q1).fresh z m1
    · exact h.dd i l x y q1 q2 n b m1 m2
  · intro i l x y q1 q2
    rcases get_set q1 with ⟨n1, rfl⟩ | ⟨n1, q1⟩
    · exact f.out (h.cl l y q2) (h.dc j l _ y e q2)
    · exact h.dc i l x y q1 q2
/-- a new cell -/
theorem Wd.addC {p : Addr} {o : HO} (h : Wd a H0 H ds cs) (hp : H p = none) (ni : ∀ C dx fs, o ≠ .ins C dx fs) : Wd a H0 (upd H p o) ds (cs ++ [(p, o)]) := by
  have h' := h.keep ((Same.refl H).new (o := o) hp)
  refine ⟨h'.same, h'.db, h.df, h.dd, ?_, ?_, ?_, ?_, ?_⟩
  · intro i y e
    rcases get_app e with ⟨_, rfl⟩ | ⟨_, e⟩
    · exact upd_same
    · exact h'.cl i y e
  · intro i y e
    rcases get_app e with ⟨_, rfl⟩ | ⟨_, e⟩
    · exact ni
    · exact h.ci i y e
  · intro i y e
    rcases get_app e with ⟨_, rfl⟩ | ⟨_, e⟩
    · exact h.same.free hp
    · exact h.cf i y e
  · intro i j y z e1 e2 n
    rcases get_app e1 with ⟨q1, rfl⟩ | ⟨_, e1⟩ <;> rcases get_app e2 with ⟨q2, rfl⟩ | ⟨_, e2⟩
    · exact absurd (q1.trans q2.symm) n
    · exact Ne.symm (ne_of_none (h.cl j z e2) hp)
    · exact ne_of_none (h.cl i y e1) hp
    · exact h.cc i j y z e1 e2 n
  · intro i j x y e1 e2
    rcases get_app e2 with ⟨q2, rfl⟩ | ⟨_, e2⟩
    · exact (h.db i x e1).fresh hp
    · exact h.dc i j x y e1 e2
/-- cells are forgotten -/
theorem Wd.drop {cs' : List (Addr × HO)} (h : Wd a H0 H ds (cs ++ cs')) : Wd a H0 H ds cs := by
  have g : ∀ {i : Nat} {y : Addr × HO}, cs[i]? = some y → (cs ++ cs')[i]? = some y := fun {i y} e => by
    rw [List.getElem?_append_left (List.getElem?_eq_some_iff.mp e).1]; exact e
  exact ⟨h.same, h.db, h.df, h.dd, fun i y e => h.cl i y (g e), fun i y e => h.ci i y (g e), fun i y e => h.cf i y (g e), fun i j y z e1 e2 => h.cc i j y z (g e1) (g e2), fun i j x y e1 e2 => h.dc i j x y e1 (g e2)⟩
/-- a new database -/
theorem Wd.addD {L : Lay} {D : Db} (h : Wd a H0 H ds cs) (s : Same H H') (hD : DB a H' L D) (mt : ∀ b, Mut L b → H b = none) : Wd a H0 H' (ds ++ [(L, D)]) cs := by
  have h' := h.keep s
  refine ⟨h'.same, ?_, ?_, ?_, h'.cl, h.ci, h.cf, h.cc, ?_⟩
  · intro j x e
    rcases get_app e with ⟨_, rfl⟩ | ⟨_, e⟩
    · exact hD
    · exact h'.db j x e
  · intro j x e b m
    rcases get_app e with ⟨_, rfl⟩ | ⟨_, e⟩
    · exact h.same.free (mt b m)
    · exact h.df j x e b m
  · intro i j x y e1 e2 n b m1 m2
    rcases get_app e1 with ⟨q1, rfl⟩ | ⟨_, e1⟩ <;> rcases get_app e2 with ⟨q2, rfl⟩ | ⟨_, e2⟩
    · exact absurd (q1.trans q2.symm) n
    · exact (h.db j y e2).fresh (mt b m1) m2
    · exact (h.db i x e1).fresh (mt b m2) m1
    · exact h.dd i j x y e1 e2 n b m1 m2
  · intro i j x y e1 e2
    rcases get_app e1 with ⟨q1, rfl⟩ | ⟨_, e1⟩
    · exact fun m => by
        have := mt _ m
        rw [h.cl j y e2] at this; cases this
    · exact h.dc i j x y e1 e2
theorem PoolO.ni {o : HO} {c : Nat} (h : PoolO o c) (C dx : Addr) (fs : List (Str × V)) : o ≠ .ins C dx fs := by
  obtain ⟨x, y, z, e, _⟩ := h
  rw [e]
  exact fun z => by cases z
theorem lst_ni {xs : List V} (C dx : Addr) (fs : List (Str × V)) : HO.lst xs ≠ .ins C dx fs := fun z => by cases z
theorem tup_ni {xs : List V} (C dx : Addr) (fs : List (Str × V)) : HO.tup xs ≠ .ins C dx fs := fun z => by cases z
theorem dK_ni {xs : List (Key × V)} (C dx : Addr) (fs : List (Str × V)) : HO.dK xs ≠ .ins C dx fs := fun z => by cases z
end
theorem Wd.made {a : Ad} {H0 H H1 : Hp} {ds : List (Lay × Db)} {cs : List (Addr × HO)} {x dx : Addr} {L : Lay} {D : Db} (W : Wd a H0 H ds cs) (hx : H x = none) (hdx : H dx = none) (hD : DB a H1 L D) (kp : Kp (fun b => b = x) (upd (upd H dx (.own x)) x (.ins a.Database dx [])) H1) (mt : ∀ b, Mut L b → b = x ∨ upd (upd H dx (.own x)) x (.ins a.Database dx []) b = none) : Wd a H0 H1 (ds ++ [(L, D)]) cs := by
  refine W.addD (fun b u e => kp b u (upd_oth (ne_of_none e hx) (upd_oth (ne_of_none e hdx) e)) (ne_of_none e hx)) hD fun b m => ?_
  rcases mt b m with rfl | z
  · exact hx
  · exact (none_upd (none_upd z).2).2
/-! ### lists of databases and cells, one of them changed -/
theorem set_get {α : Type} {l : List α} {i : Nat} {x : α} (h : l[i]? = some x) : l.set i x = l := by
  obtain ⟨h1, h2⟩ := List.getElem?_eq_some_iff.mp h
  rw [← h2]
  exact List.set_getElem_self h1
theorem get_ne {α : Type} {l : List α} {i j : Nat} {x : α} (h : i ≠ j) : (l.set i x)[j]? = l[j]? := List.getElem?_set_ne h
theorem get_eq {α : Type} {l : List α} {i : Nat} {x y : α} (h : l[i]? = some y) : (l.set i x)[i]? = some x := by
  obtain ⟨h1, _⟩ := List.getElem?_eq_some_iff.mp h
  rw [List.getElem?_set_self h1]
theorem at_str {xs : List Str} {r : Int} (h0 : 0 ≤ r) (h1 : r < ((xs.map V.str).length : Int)) : ∃ z, atI (xs.map V.str) r = some (.str z) ∧ z ∈ xs := by
  obtain ⟨n, rfl⟩ : ∃ n : Nat, r = n := ⟨r.toNat, by omega⟩
  have hi : n < xs.length := by rw [List.length_map] at h1; omega
  exact ⟨xs[n], atI_nat (by rw [List.getElem?_map, List.getElem?_eq_getElem hi]; rfl), List.getElem_mem hi⟩
theorem Wd.draw {a : Ad} {H0 H H' : Hp} {ds : List (Lay × Db)} {cs : List (Addr × HO)} {ip : Nat} {pp : Addr} {o o' : HO} {x : Addr × HO} (h : Wd a H0 H ds (cs.set ip (pp, o))) (ep : cs[ip]? = some x) (k : Kp (fun b => b = pp) H H') (e' : H' pp = some o') (ni : ∀ C dx fs, o' ≠ .ins C dx fs) : Wd a H0 H' ds (cs.set ip (pp, o')) := by
  have q := h.putC (get_eq ep) k e' ni
  rw [List.set_set] at q
  exact q
theorem Wd.opD {a : Ad} {H0 H H' : Hp} {ds : List (Lay × Db)} {cs : List (Addr × HO)} {jd : Nat} {L L' : Lay} {D D' : Db} {x : Lay × Db} (h : Wd a H0 H (ds.set jd (L, D)) cs) (ed : ds[jd]? = some x) (hD : DB a H' L' D') (f : Fr H H' L L') : Wd a H0 H' (ds.set jd (L', D')) cs := by
  have q := h.putD (get_eq ed) hD f
  rw [List.set_set] at q
  exact q
/-! ### what is shown of a database, as data -/
structure Okd (d : PyData) (k m : Nat) : Prop where
  s : d.showable = true
  dp : d.depth ≤ k
  l : d.shown.length ≤ m
theorem showAll : ∀ {xs : List PyData}, (∀ x ∈ xs, x.showable = true) → PyData.showableAll xs = true
  | [], _ => rfl
  | x :: xs, h => by
    show (x.showable && PyData.showableAll xs) = true
    rw [h x List.mem_cons_self, showAll fun y hy => h y (List.mem_cons_of_mem _ hy)]; rfl
theorem depAll {k : Nat} : ∀ {xs : List PyData}, (∀ x ∈ xs, x.depth ≤ k) → PyData.depthAll xs ≤ k
  | [], _ => Nat.zero_le _
  | x :: xs, h => by
    show max x.depth (PyData.depthAll xs) ≤ k
    have h1 := h x List.mem_cons_self
    have h2 := depAll fun y hy => h y (List.mem_cons_of_mem _ hy)
    omega
theorem lenAll {m : Nat} : ∀ {xs : List PyData}, (∀ x ∈ xs, x.shown.length ≤ m) → ((PyData.shownAll xs).map (·.length)).sum ≤ xs.length * m ∧ (PyData.shownAll xs).length = xs.length
  | [], _ => ⟨Nat.zero_le _, rfl⟩
  | x :: xs, h => by
    obtain ⟨h1, h2⟩ := lenAll fun y hy => h y (List.mem_cons_of_mem _ hy)
    have h3 := h x List.mem_cons_self
    refine ⟨?_, ?_⟩
    · show x.shown.length + ((PyData.shownAll xs).map (·.length)).sum ≤ (xs.length + 1) * m
      rw [Nat.add_mul]; omega
    · show (PyData.shownAll xs).length + 1 = xs.length + 1
      rw [h2]
theorem Okd.mul {a b n m : Nat} (h : a ≤ n * m + 2 * n + 3) (h2 : n ≤ b) : a ≤ b * (m + 2) + 3 := by
  have : n * (m + 2) ≤ b * (m + 2) := Nat.mul_le_mul_right _ h2
  rw [Nat.mul_add] at this
  omega
theorem Okd.lst {xs : List PyData} {k m n : Nat} (h : ∀ x ∈ xs, Okd x k m) (hn : xs.length ≤ n) : Okd (.list xs) (k + 1) (n * (m + 2) + 3) := by
  obtain ⟨l1, l2⟩ := lenAll (m := m) fun x hx => (h x hx).l
  refine ⟨showAll fun x hx => (h x hx).s, Nat.succ_le_succ (depAll fun x hx => (h x hx).dp), ?_⟩
  have := listText_len_le (PyData.shownAll xs)
  rw [l2] at this
  exact Okd.mul (Nat.le_trans this (Nat.add_le_add_right (Nat.add_le_add_right l1 _) _)) hn
theorem Okd.tup {xs : List PyData} {k m n : Nat} (h : ∀ x ∈ xs, Okd x k m) (hn : xs.length ≤ n) : Okd (.tuple xs) (k + 1) (n * (m + 2) + 3) := by
  obtain ⟨l1, l2⟩ := lenAll (m := m) fun x hx => (h x hx).l
  refine ⟨showAll fun x hx => (h x hx).s, Nat.succ_le_succ (depAll fun x hx => (h x hx).dp), ?_⟩
  have := tupleText_len_le (PyData.shownAll xs)
  rw [l2] at this
  exact Okd.mul (Nat.le_trans this (Nat.add_le_add_right (Nat.add_le_add_right l1 _) _)) hn
theorem kvAll {k m : Nat} : ∀ {xs : List (PyData × PyData)}, (∀ x ∈ xs, Okd x.1 k m ∧ Okd x.2 k m) → PyData.showableKv xs = true ∧ PyData.depthKv xs ≤ k ∧ ((PyData.shownKv xs).map (·.length)).sum ≤ xs.length * (2 * m + 2) ∧ (PyData.shownKv xs).length = xs.length
  | [], _ => ⟨rfl, Nat.zero_le _, Nat.zero_le _, rfl⟩
  | (a, b) :: xs, h => by
    obtain ⟨h1, h2, h3, h4⟩ := kvAll fun y hy => h y (List.mem_cons_of_mem _ hy)
    obtain ⟨h5, h6⟩ := h (a, b) List.mem_cons_self
    refine ⟨?_, ?_, ?_, ?_⟩
    · show (a.showable && b.showable && PyData.showableKv xs) = true
      rw [h1, h5.s, h6.s]; rfl
    · show max (max a.depth b.depth) (PyData.depthKv xs) ≤ k
      have := h5.dp
      have := h6.dp
      dsimp only at *
      omega
    · show (a.shown ++ ": " ++ b.shown).length + ((PyData.shownKv xs).map (·.length)).sum ≤ (xs.length + 1) * (2 * m + 2)
      have e : (a.shown ++ ": " ++ b.shown).length = a.shown.length + 2 + b.shown.length := by
        rw [Str.length_append, Str.length_append]
        have : ((": " : Str)).length = 2 := by decide +kernel
        rw [this]
      rw [e, Nat.add_mul]
      have := h5.l
      have := h6.l
      dsimp only at *
      omega
    · show (PyData.shownKv xs).length + 1 = xs.length + 1
      rw [h4]
theorem Okd.dct {xs : List (PyData × PyData)} {k m n : Nat} (h : ∀ x ∈ xs, Okd x.1 k m ∧ Okd x.2 k m) (hn : xs.length ≤ n) : Okd (.dict xs) (k + 1) (n * (2 * m + 2 + 2) + 3) := by
  obtain ⟨h1, h2, h3, h4⟩ := kvAll h
  refine ⟨h1, Nat.succ_le_succ h2, ?_⟩
  have := dictText_len_le (PyData.shownKv xs)
  rw [h4] at this
  exact Okd.mul (Nat.le_trans this (Nat.add_le_add_right (Nat.add_le_add_right h3 _) _)) hn
theorem Okd.up {d : PyData} {k m k' m' : Nat} (h : Okd d k m) (h1 : k ≤ k') (h2 : m ≤ m') : Okd d k' m' := ⟨h.s, Nat.le_trans h.dp h1, Nat.le_trans h.l h2⟩
theorem okd_word {z : Str} (h : IsWord z) : Okd (.str z) 0 100 := by
  refine ⟨rfl, Nat.le_refl 0, ?_⟩
  show (reprText z).length ≤ 100
  have := StrLaws.reprText_len z fun c hc => by have := h.al c hc; omega
  have h2 := h.hi
  rw [len_toList] at h2
  omega
theorem okd_non : Okd .none 0 100 := ⟨rfl, Nat.le_refl 0, by show ("None" : Str).length ≤ 100; decide +kernel⟩
theorem okd_bool (b : Bool) : Okd (.bool b) 0 100 := ⟨rfl, Nat.le_refl 0, by cases b <;> decide +kernel⟩
theorem log_120 {i : Int} (h : i.natAbs < 2 ^ 120) : i.natAbs.log2 < 1920 := by
  by_cases h0 : i.natAbs = 0
  · rw [h0]; decide
  · exact (Nat.log2_lt h0).mpr (Nat.lt_of_lt_of_le h (Nat.pow_le_pow_right (by decide) (by decide)))
theorem okd_int {i : Int} (h : i.natAbs < 2 ^ 120) : Okd (.int i) 0 4000 := by
  have hl := log_120 h
  refine ⟨decide_eq_true hl, Nat.le_refl 0, ?_⟩
  show (Str.ofString (toString i)).length ≤ 4000
  have e := int_text_length_le (k := 1920) (by decide) hl
  rw [ofString_length]; omega
def oD : Option Str → PyData
  | none => .none
  | some z => .str z
theorem okd_o {y : Option Str} (h : ∀ z, y = some z → IsWord z) : Okd (oD y) 0 100 := by
  cases y with
  | none => exact okd_non
  | some z => exact okd_word (h z rfl)
theorem dq_o {K : PySem.W.Frag} {H : Hp} : ∀ y : Option Str, Dq K H (oV y) (oD y)
  | none => .non
  | some z => .str z
def valD : V → PyData
  | .int i => .int i
  | _ => .none
def rowD (r : Row) : PyData := .tuple [.str r.rcd, valD r.val, .str r.fate]
def kvD (kvs : List (Key × V)) : List (PyData × PyData) := kvs.map fun p => (kD p.1, valD p.2)
theorem okd_fate {r : Row} (h : RdOk r) : Okd (.str r.fate) 0 100 := by
  rcases h.2.2 with e | e | e <;> rw [e] <;> exact ⟨rfl, Nat.le_refl 0, by show (reprText _).length ≤ 100; decide +kernel⟩
theorem okd_row {r : Row} (h : RdOk r) : Okd (rowD r) 1 12100 := by
  obtain ⟨i, e, hi⟩ := h.2.1
  unfold rowD
  rw [e]
  refine (Okd.tup (k := 0) (m := 4000) (n := 3) (fun x hx => ?_) (Nat.le_refl _)).up (Nat.le_refl _) (by omega)
  simp only [List.mem_cons, List.not_mem_nil, or_false] at hx
  rcases hx with rfl | rfl | rfl
  · exact (okd_word h.1).up (Nat.le_refl _) (by omega)
  · exact okd_int hi
  · exact (okd_fate h).up (Nat.le_refl _) (by omega)
theorem put_mem {kvs : List (Key × V)} {k : Key} {v : V} {p : Key × V} (h : p ∈ putK kvs k v) : p ∈ kvs ∨ p = (k, v) := by
  unfold putK at h
  split at h
  · obtain ⟨q, hq, e⟩ := List.mem_map.mp h
    by_cases c : q.1 = k
    · rw [if_pos c, c] at e
      exact .inr e.symm
    · rw [if_neg c] at e
      exact .inl (e ▸ hq)
  · rcases List.mem_append.mp h with h | h
    · exact .inl h
    · exact .inr (List.mem_singleton.mp h)
theorem kept_mem : ∀ (rows : List Row) (kvs : List (Key × V)) (p : Key × V), p ∈ rows.foldl keptS kvs → p ∈ kvs ∨ ∃ r ∈ rows, p = (.inr r.rcd, r.val)
  | [], kvs, p, h => .inl h
  | r :: rs, kvs, p, h => by
    rcases kept_mem rs _ p h with h | ⟨r', h1, h2⟩
    · unfold keptS at h
      split at h
      · rcases put_mem h with h | h
        · exact .inl h
        · exact .inr ⟨r, List.mem_cons_self, h⟩
      · exact .inl h
    · exact .inr ⟨r', List.mem_cons_of_mem _ h1, h2⟩
theorem ord_mem {kvs : List (Key × V)} : ∀ (xs : List Str) (acc : List (Key × V)) (p : Key × V), p ∈ xs.foldl (ordS kvs) acc → p ∈ acc ∨ ∃ z ∈ xs, p = (.inr z, (valV kvs (.inr z)).getD .non)
  | [], acc, p, h => .inl h
  | z :: xs, acc, p, h => by
    rcases ord_mem xs _ p h with h | ⟨z', h1, h2⟩
    · rcases put_mem h with h | h
      · exact .inl h
      · exact .inr ⟨z, List.mem_cons_self, h⟩
    · exact .inr ⟨z', List.mem_cons_of_mem _ h1, h2⟩
theorem keptD_mem {D : Db} {p : Key × V} (h : p ∈ keptD D) : ∃ r ∈ D.rows, p = (.inr r.rcd, r.val) := by
  obtain ⟨xs, e, _, _⟩ := kept_fold D.rows [] [] rfl
  have e : (keptK D.rows).map (·.1) = xs.map Sum.inr := e
  have kd : keptD D = (sortT xs).foldl (ordS (keptK D.rows)) [] := by
    unfold keptD ordK
    rw [strK_of e]
  rw [kd] at h
  rcases ord_mem _ _ _ h with h | ⟨z, hz, h⟩
  · cases h
  obtain ⟨v, hv⟩ := val_some e (sortT_mem.mp hz)
  rw [hv] at h
  have m : ((.inr z : Key), v) ∈ keptK D.rows := by
    unfold valV at hv
    obtain ⟨q, hq, e2⟩ := Option.map_eq_some_iff.mp hv
    have h1 := List.mem_of_find?_eq_some hq
    have h2 := List.find?_some hq
    rw [decide_eq_true_eq] at h2
    obtain ⟨q1, q2⟩ := q
    dsimp only at e2 h2
    rw [← e2, ← h2]; exact h1
  rcases kept_mem _ _ _ m with m | ⟨r, hr, e3⟩
  · cases m
  · exact ⟨r, hr, h.trans e3⟩
theorem keptD_len (D : Db) : (keptD D).length ≤ D.rows.length := by
  obtain ⟨xs, e, _, l⟩ := kept_fold D.rows [] [] rfl
  have e : (keptK D.rows).map (·.1) = xs.map Sum.inr := e
  have kd : keptD D = (sortT xs).foldl (ordS (keptK D.rows)) [] := by
    unfold keptD ordK
    rw [strK_of e]
  rw [kd]
  have := ord_len (kvs := keptK D.rows) (sortT xs) []
  rw [sortT_len] at this
  simp only [List.length_nil] at this l
  omega
theorem dq_kv {K : PySem.W.Frag} {H : Hp} : ∀ {kvs : List (Key × V)}, (∀ p ∈ kvs, ∃ i, p.2 = .int i) → DqKv K H kvs (kvD kvs)
  | [], _ => .nil
  | (k, v) :: r, h => by
    obtain ⟨i, e⟩ := h (k, v) List.mem_cons_self
    dsimp only at e
    subst e
    exact .cons (.int i) (dq_kv fun p hp => h p (List.mem_cons_of_mem _ hp))
theorem dq_strs {K : PySem.W.Frag} {H : Hp} : ∀ ys : List Str, DqAll K H (ys.map V.str) (ys.map PyData.str)
  | [] => .nil
  | y :: r => .cons (.str y) (dq_strs r)
theorem dq_row {K : PySem.W.Frag} {H : Hp} {t : Addr} {r : Row} (h : TupAt H t r) (hr : RdOk r) : Dq K H (.ref t) (rowD r) := by
  obtain ⟨i, e, _⟩ := hr.2.1
  have h : H t = some (.tup [.str r.rcd, r.val, .str r.fate]) := h
  unfold rowD
  rw [e] at h ⊢
  exact .tup (SqT.of h) (.cons (.str _) (.cons (.int i) (.cons (.str _) .nil)))
theorem dq_rows {K : PySem.W.Frag} {H : Hp} : ∀ {ts : List Addr} {rs : List Row}, All2 (TupAt H) ts rs → (∀ r ∈ rs, RdOk r) → DqAll K H (ts.map V.ref) (rs.map rowD)
  | _, _, .nil, _ => .nil
  | _, _, .cons h t, hr => .cons (dq_row h (hr _ List.mem_cons_self)) (dq_rows t fun r m => hr r (List.mem_cons_of_mem _ m))
def seenD (D : Db) (rows : List Row) : PyData := .list [.list [.bool (openD D), .bool (reasonD D).isSome, oD (reasonD D), .int (levelsD D : Int), .int (D.entered.length : Int)], .list ((ownL D).map PyData.str), .list ((outerL D).map PyData.str), .dict (kvD (keptD D)), .list (rows.map rowD)]
theorem held_words {D : Db} (h : ∀ r ∈ D.rows, RdOk r) (ns : List Int) : ∀ z ∈ sortT (heldL D.rows ns), IsWord z := fun z hz => by
  obtain ⟨r, hr, _, _, e⟩ := held_mem.mp (sortT_mem.mp hz)
  exact e ▸ (h r hr).1
theorem nat_small {n : Nat} (h : n ≤ 1000000) : ((n : Int)).natAbs < 2 ^ 120 := by
  rw [Int.natAbs_natCast]
  exact Nat.lt_of_le_of_lt h (Nat.lt_of_lt_of_le (by decide : 1000000 < 2 ^ 20) (Nat.pow_le_pow_right (by decide) (by decide)))
theorem Gd.levels {D : Db} {m : Nat} (g : Gd D m) : levelsD D ≤ m := by
  have := g.e
  have l := g.wf.lenG.2
  unfold levelsD
  split
  · rename_i x st e
    have := (l x (by rw [e]; exact List.mem_cons_self)).1
    omega
  · omega
theorem Gd.reason {D : Db} {m : Nat} (g : Gd D m) : ∀ z, reasonD D = some z → IsWord z := fun z hz => by
  unfold reasonD at hz
  rcases g.top with ⟨st, e⟩ | ⟨k, y, rs, st, e⟩
  · rw [e] at hz; cases hz
  · rw [e] at hz
    dsimp only at hz
    exact g.w ⟨k, y :: rs⟩ (by rw [e]; exact List.mem_cons_self) z (by rw [← show y = some z from hz]; exact List.mem_cons_self)
theorem seen_ok {D : Db} {m : Nat} {rows : List Row} (g : Gd D m) (hm : m ≤ 200) (hr : ∀ r ∈ rows, RdOk r) (hl : rows.length ≤ m) : (seenD D rows).showable = true ∧ (seenD D rows).depth ≤ 60 ∧ (seenD D rows).shown.length ≤ sizeLine := by
  have ge := g.e
  have gr := g.r
  have h1 : Okd (.list [.bool (openD D), .bool (reasonD D).isSome, oD (reasonD D), .int (levelsD D : Int), .int (D.entered.length : Int)]) 1 (5 * (4000 + 2) + 3) := Okd.lst (k := 0) (fun x hx => by
    simp only [List.mem_cons, List.not_mem_nil, or_false] at hx
    rcases hx with rfl | rfl | rfl | rfl | rfl
    · exact (okd_bool _).up (Nat.le_refl _) (by omega)
    · exact (okd_bool _).up (Nat.le_refl _) (by omega)
    · exact (okd_o g.reason).up (Nat.le_refl _) (by omega)
    · exact okd_int (nat_small (by have := g.levels; omega))
    · exact okd_int (nat_small (by omega))) (Nat.le_refl _)
  have h2 : ∀ ns, Okd (.list ((sortT (heldL D.rows ns)).map PyData.str)) 1 (200 * (100 + 2) + 3) := fun ns => Okd.lst (k := 0) (fun x hx => by
    obtain ⟨z, hz, rfl⟩ := List.mem_map.mp hx
    exact okd_word (held_words g.rd ns z hz)) (by rw [List.length_map, sortT_len]; have := held_len (rows := D.rows) (ns := ns); omega)
  have h3 : Okd (.dict (kvD (keptD D))) 1 (200 * (2 * 4000 + 2 + 2) + 3) := Okd.dct (k := 0) (fun x hx => by
    obtain ⟨p, hp, rfl⟩ := List.mem_map.mp hx
    obtain ⟨r, hr, rfl⟩ := keptD_mem hp
    obtain ⟨w1, ⟨i, e, hi⟩, _⟩ := g.rd r hr
    dsimp only
    rw [e]
    exact ⟨(okd_word w1).up (Nat.le_refl _) (by omega), okd_int hi⟩) (by unfold kvD; rw [List.length_map]; have := keptD_len D; omega)
  have h4 : Okd (.list (rows.map rowD)) 2 (200 * (12100 + 2) + 3) := Okd.lst (k := 1) (fun x hx => by
    obtain ⟨r, h, rfl⟩ := List.mem_map.mp hx
    exact okd_row (hr r h)) (by rw [List.length_map]; omega)
  have h5 : Okd (seenD D rows) 3 (5 * (2500000 + 2) + 3) := Okd.lst (k := 2) (fun x hx => by
    simp only [List.mem_cons, List.not_mem_nil, or_false] at hx
    rcases hx with rfl | rfl | rfl | rfl | rfl
    · exact h1.up (by omega) (by omega)
    · exact (h2 _).up (by omega) (by omega)
    · exact (h2 _).up (by omega) (by omega)
    · exact h3.up (by omega) (by omega)
    · exact h4.up (by omega) (by omega)) (Nat.le_refl _)
  exact ⟨h5.s, by have := h5.dp; omega, by have := h5.l; rw [sizeLine_eq]; omega⟩
theorem map_ref0 {l : List Addr} {i : Nat} {v : V} (h : (l.map V.ref)[i]? = some v) : ∃ t, l[i]? = some t ∧ v = V.ref t := by
  rw [List.getElem?_map] at h
  cases e : l[i]? with
  | none => rw [e] at h; cases h
  | some t =>
    rw [e] at h
    cases h
    exact ⟨t, rfl, rfl⟩
/-! ### k06: _law_single -/
abbrev cls6 (a : Ad) : List Addr := [a.BadMode, a.BadWord, a.Doomed, a.Missing, a.NoBlock, a.NoRecord, a.Present, a.Failed, a.Refused, a.Waits]
def spSingle (a : Ad) : SpP := fun p vs H Q _ => ∃ (i : Nat) (C : Addr), vs = [.ref p.1] ∧ (cls6 a)[i]? = some C ∧ PExc p C H ∧ ∀ H', Same H H' → Q (.bl true) H'
theorem exk6 (T : Txt K mg a d) {i : Nat} {C : Addr} (h : (cls6 a)[i]? = some C) : ExK K C := by
  have m := List.mem_of_getElem? h
  have h1 := List.all_eq_true.mp T.kx C m
  rw [Bool.and_eq_true, decide_eq_true_eq, decide_eq_true_eq] at h1
  have g : ∀ {st : Stmt} {P' : Program} {q : Str} {ps : List Str} {fs : List (Str × Sum Nat Str)} {D fI : Addr}, ErrC P' K D fI st q ps fs → D = C → ExK K C := fun E e => by
    subst e
    exact ⟨E.ga, E.gg, E.exC, E.hdC, h1.1, T.ks, T.kt, h1.2⟩
  simp only [cls6, List.mem_cons, List.not_mem_nil, or_false] at m
  rcases m with e | e | e | e | e | e | e | e | e | e
  · exact g T.e_BadMode e.symm
  · exact g T.e_BadWord e.symm
  · exact g T.e_Doomed e.symm
  · exact g T.e_Missing e.symm
  · exact g T.e_NoBlock e.symm
  · exact g T.e_NoRecord e.symm
  · exact g T.e_Present e.symm
  · exact g T.e_Failed e.symm
  · exact g T.e_Refused e.symm
  · exact g T.e_Waits e.symm
theorem ok_law_single (T : Txt K mg a d) : FnHP P w K mg base CX0 2 a.law_single d.law_single ["_law_e"] (spSingle a) := by
  refine fnHP_of T.law_single sc_law_single (fun p vs H Q E h => ?_) (fun cdv A outer s H vs Q E p h1 hr h => ?_)
  · obtain ⟨i, C, rfl, _⟩ := h
    rfl
  · obtain ⟨i, C, rfl, hC, hx, k⟩ := h
    have hot : L2H.HotC (L2H.cxH CX0 P w K mg base ["_law_e", "_law_found", "_law_one"] "_law_single" (defScope s_law_single) a.law_single cdv A outer s H E p) := ⟨p, h1, List.mem_cons_self⟩
    have inp : p ∈ (L2H.cxH CX0 P w K mg base ["_law_e", "_law_found", "_law_one"] "_law_single" (defScope s_law_single) a.law_single cdv A outer s H E p).pn := List.mem_cons_self
    have ek := exk6 T hC
    have rr : ∀ (c : Addr) (u : Value), RelV (.ref c) u → u = .ref c := fun c u r => r
    have kk : ∀ (j : Nat) (D : Addr), (cls6 a)[j]? = some D → PySem.W.kitOne K (.ref C) (.ref D) = some (decide (i = j)) := fun j D h => kitAll_at T.km hC h
    have hb := List.all_eq_true.mp T.kb C (List.mem_of_getElem? hC)
    rw [Bool.and_eq_true, decide_eq_true_eq, decide_eq_true_eq] at hb
    refine ⟨_, (pss_cons (ps_set (i := 1) sc_law_single.nd rfl (Or.inl rfl) (pe_lst (pa_cons (pe_callB (call_isP inp) (by rfl) T.n_isinstance (by decide +kernel) (pa_cons (pv 0) (pa_cons (pe_glob (v := .ref a.BadMode) (by rfl) T.g_BadMode rfl) pa_nil))) (pa_cons (pe_callB (call_isP inp) (by rfl) T.n_isinstance (by decide +kernel) (pa_cons (pv 0) (pa_cons (pe_glob (v := .ref a.BadWord) (by rfl) T.g_BadWord rfl) pa_nil))) (pa_cons (pe_callB (call_isP inp) (by rfl) T.n_isinstance (by decide +kernel) (pa_cons (pv 0) (pa_cons (pe_glob (v := .ref a.Doomed) (by rfl) T.g_Doomed rfl) pa_nil))) (pa_cons (pe_callB (call_isP inp) (by rfl) T.n_isinstance (by decide +kernel) (pa_cons (pv 0) (pa_cons (pe_glob (v := .ref a.Missing) (by rfl) T.g_Missing rfl) pa_nil))) pa_nil))))))
  (pss_cons (ps_set (i := 1) sc_law_single.nd rfl (Or.inl rfl) (pe_op op_cat (pv 1) (pe_lst (pa_cons (pe_callB (call_isP inp) (by rfl) T.n_isinstance (by decide +kernel) (pa_cons (pv 0) (pa_cons (pe_glob (v := .ref a.NoBlock) (by rfl) T.g_NoBlock rfl) pa_nil))) (pa_cons (pe_callB (call_isP inp) (by rfl) T.n_isinstance (by decide +kernel) (pa_cons (pv 0) (pa_cons (pe_glob (v := .ref a.NoRecord) (by rfl) T.g_NoRecord rfl) pa_nil))) (pa_cons (pe_callB (call_isP inp) (by rfl) T.n_isinstance (by decide +kernel) (pa_cons (pv 0) (pa_cons (pe_glob (v := .ref a.Present) (by rfl) T.g_Present rfl) pa_nil))) (pa_cons (pe_callB (call_isP inp) (by rfl) T.n_isinstance (by decide +kernel) (pa_cons (pv 0) (pa_cons (pe_glob (v := .ref a.Failed) (by rfl) T.g_Failed rfl) pa_nil))) pa_nil)))))))
  (pss_cons (ps_set (i := 1) sc_law_single.nd rfl (Or.inl rfl) (pe_op op_cat (pv 1) (pe_lst (pa_cons (pe_callB (call_isP inp) (by rfl) T.n_isinstance (by decide +kernel) (pa_cons (pv 0) (pa_cons (pe_glob (v := .ref a.Refused) (by rfl) T.g_Refused rfl) pa_nil))) (pa_cons (pe_callB (call_isP inp) (by rfl) T.n_isinstance (by decide +kernel) (pa_cons (pv 0) (pa_cons (pe_glob (v := .ref a.Waits) (by rfl) T.g_Waits rfl) pa_nil))) pa_nil)))))
  (pss_one (ps_ret (pe_and (pe_callB (call_isP inp) (by rfl) T.n_isinstance (by decide +kernel) (pa_cons (pv 0) (pa_cons (pe_glob (v := .ref a.InnercommitsError) (by rfl) T.g_InnercommitsError rfl) pa_nil))) (pe_and (pe_callB (call_isP inp) (by rfl) T.n_isinstance (by decide +kernel) (pa_cons (pv 0) (pa_cons (pe_bltn (v := .ty "ValueError") (u := .type "ValueError") (by rfl) T.n_ValueError (by decide +kernel) rfl) pa_nil))) (pe_one (pe_cmpR op_eq (pe_callB (cr_sumX hot) (by rfl) T.n_sum (by decide +kernel) (pa_cons (pe_lcX (own := [("_law_one", 2)]) (tt := tYes) hot sc_law_single.nd (pix_list (pv 1)) (blkOk_by (own := [("_law_one", 2)]) (N := ["_law_e", "_law_found", "_law_one"]) (sc := defScope s_law_single) (by decide +kernel)) (fun _ _ _ _ _ => (pg_name (i := 2) sc_law_single.nd rfl (Or.inl rfl))) (fun _ _ _ _ _ => pts_nil) (fun _ _ _ _ _ => (pe_callTy call_int1 (by rfl) T.n_int (by decide +kernel) (pa_cons (pv 2) pa_nil)))) pa_nil)) pe_int (nomark _)))))))))), ?_⟩
    walk_at "rd"
    refine ⟨ek, rr _, kk 0 _ rfl, ?_⟩
    walk_at "rd"
    refine ⟨ek, rr _, kk 1 _ rfl, ?_⟩
    walk_at "rd"
    refine ⟨ek, rr _, kk 2 _ rfl, ?_⟩
    walk_at "rd"
    refine ⟨ek, rr _, kk 3 _ rfl, ?_⟩
    walk_at "rd"
    intro q1 hq1
    have s1 := (Same.refl H).new (o := .lst [V.bl (decide (i = 0)), V.bl (decide (i = 1)), V.bl (decide (i = 2)), V.bl (decide (i = 3))]) hq1
    have hx := hx.same s1
    have b1 := upd_same (H := H) (a := q1) (o := .lst [V.bl (decide (i = 0)), V.bl (decide (i = 1)), V.bl (decide (i = 2)), V.bl (decide (i = 3))])
    generalize upd H q1 (.lst [V.bl (decide (i = 0)), V.bl (decide (i = 1)), V.bl (decide (i = 2)), V.bl (decide (i = 3))]) = H1 at s1 hx b1 ⊢
    walk_at "rd"
    refine ⟨ek, rr _, kk 4 _ rfl, ?_⟩
    walk_at "rd"
    refine ⟨ek, rr _, kk 5 _ rfl, ?_⟩
    walk_at "rd"
    refine ⟨ek, rr _, kk 6 _ rfl, ?_⟩
    walk_at "rd"
    refine ⟨ek, rr _, kk 7 _ rfl, ?_⟩
    walk_at "rd"
    intro q2 hq2
    have s0 := (Same.refl H1).new (o := .lst ([V.bl (decide (i = 4)), V.bl (decide (i = 5)), V.bl (decide (i = 6)), V.bl (decide (i = 7))])) hq2
    have s2 := s1.trans s0
    have hx := hx.same s0
    have b2 := upd_same (H := H1) (a := q2) (o := .lst ([V.bl (decide (i = 4)), V.bl (decide (i = 5)), V.bl (decide (i = 6)), V.bl (decide (i = 7))]))
    have b1 := s0 _ _ b1
    generalize upd H1 q2 (.lst ([V.bl (decide (i = 4)), V.bl (decide (i = 5)), V.bl (decide (i = 6)), V.bl (decide (i = 7))])) = H2 at s2 hx b2 b1 ⊢
    clear s0 hq2
    walk_at "rd"
    intro q3 hq3
    have s0 := (Same.refl H2).new (o := .lst ([V.bl (decide (i = 0)), V.bl (decide (i = 1)), V.bl (decide (i = 2)), V.bl (decide (i = 3))] ++ [V.bl (decide (i = 4)), V.bl (decide (i = 5)), V.bl (decide (i = 6)), V.bl (decide (i = 7))])) hq3
    have s3 := s2.trans s0
    have hx := hx.same s0
    have b3 := upd_same (H := H2) (a := q3) (o := .lst ([V.bl (decide (i = 0)), V.bl (decide (i = 1)), V.bl (decide (i = 2)), V.bl (decide (i = 3))] ++ [V.bl (decide (i = 4)), V.bl (decide (i = 5)), V.bl (decide (i = 6)), V.bl (decide (i = 7))]))
    generalize upd H2 q3 (.lst ([V.bl (decide (i = 0)), V.bl (decide (i = 1)), V.bl (decide (i = 2)), V.bl (decide (i = 3))] ++ [V.bl (decide (i = 4)), V.bl (decide (i = 5)), V.bl (decide (i = 6)), V.bl (decide (i = 7))])) = H3 at s3 hx b3  ⊢
    clear s0 hq3
    walk_at "rd"
    refine ⟨ek, rr _, kk 8 _ rfl, ?_⟩
    walk_at "rd"
    refine ⟨ek, rr _, kk 9 _ rfl, ?_⟩
    walk_at "rd"
    intro q4 hq4
    have s0 := (Same.refl H3).new (o := .lst ([V.bl (decide (i = 8)), V.bl (decide (i = 9))])) hq4
    have s4 := s3.trans s0
    have hx := hx.same s0
    have b4 := upd_same (H := H3) (a := q4) (o := .lst ([V.bl (decide (i = 8)), V.bl (decide (i = 9))]))
    have b3 := s0 _ _ b3
    generalize upd H3 q4 (.lst ([V.bl (decide (i = 8)), V.bl (decide (i = 9))])) = H4 at s4 hx b4 b3 ⊢
    clear s0 hq4
    walk_at "rd"
    intro q5 hq5
    have s0 := (Same.refl H4).new (o := .lst ([V.bl (decide (i = 0)), V.bl (decide (i = 1)), V.bl (decide (i = 2)), V.bl (decide (i = 3))] ++ [V.bl (decide (i = 4)), V.bl (decide (i = 5)), V.bl (decide (i = 6)), V.bl (decide (i = 7))] ++ [V.bl (decide (i = 8)), V.bl (decide (i = 9))])) hq5
    have s5 := s4.trans s0
    have hx := hx.same s0
    have b5 := upd_same (H := H4) (a := q5) (o := .lst ([V.bl (decide (i = 0)), V.bl (decide (i = 1)), V.bl (decide (i = 2)), V.bl (decide (i = 3))] ++ [V.bl (decide (i = 4)), V.bl (decide (i = 5)), V.bl (decide (i = 6)), V.bl (decide (i = 7))] ++ [V.bl (decide (i = 8)), V.bl (decide (i = 9))]))
    generalize upd H4 q5 (.lst ([V.bl (decide (i = 0)), V.bl (decide (i = 1)), V.bl (decide (i = 2)), V.bl (decide (i = 3))] ++ [V.bl (decide (i = 4)), V.bl (decide (i = 5)), V.bl (decide (i = 6)), V.bl (decide (i = 7))] ++ [V.bl (decide (i = 8)), V.bl (decide (i = 9))])) = H5 at s5 hx b5  ⊢
    clear s0 hq5
    walk_at "rd"
    refine ⟨ek, rr _, hb.1, ?_⟩
    walk_at "rd"
    refine ⟨ek, fun u r => r, hb.2, ?_⟩
    walk_at "rd"
    have b6 : H5 q5 = some (.lst ([decide (i = 0), decide (i = 1), decide (i = 2), decide (i = 3), decide (i = 4), decide (i = 5), decide (i = 6), decide (i = 7), decide (i = 8), decide (i = 9)].map V.bl)) := b5
    have hi : i < 10 := (List.getElem?_eq_some_iff.mp hC).1
    have sm : ((([decide (i = 0), decide (i = 1), decide (i = 2), decide (i = 3), decide (i = 4), decide (i = 5), decide (i = 6), decide (i = 7), decide (i = 8), decide (i = 9)] : List Bool).map fun b => if b = true then (1 : Int) else 0).sum) = 1 := by
      clear hC kk hb
      have : ∀ j : Nat, j < 10 → ((([decide (j = 0), decide (j = 1), decide (j = 2), decide (j = 3), decide (j = 4), decide (j = 5), decide (j = 6), decide (j = 7), decide (j = 8), decide (j = 9)] : List Bool).map fun b => if b = true then (1 : Int) else 0).sum) = 1 := by decide
      exact this i hi
    have ln : ([decide (i = 0), decide (i = 1), decide (i = 2), decide (i = 3), decide (i = 4), decide (i = 5), decide (i = 6), decide (i = 7), decide (i = 8), decide (i = 9)] : List Bool).length = 10 := rfl
    generalize ([decide (i = 0), decide (i = 1), decide (i = 2), decide (i = 3), decide (i = 4), decide (i = 5), decide (i = 6), decide (i = 7), decide (i = 8), decide (i = 9)] : List Bool) = bs at b6 sm ln
    clear b5 b4
    refine ⟨⟨_, SqL.of b6⟩, ?_⟩
    intro D hD
    refine lc_list (xs := bs.map V.bl) (fun i H' => Same H5 H' ∧ H' D = some (.lst ((bs.take i).map fun b => V.int (if b = true then 1 else 0)))) ?_ ?_ ?_ ?_
    · exact ⟨(Same.refl H5).new hD, upd_same⟩
    · rintro i H' _ ⟨s6, _⟩
      exact SqL.of (s6 _ _ b6)
    · rintro i v H' hv ⟨s6, hD'⟩
      rw [List.getElem?_map] at hv
      cases eb : bs[i]? with
      | none => rw [eb] at hv; cases hv
      | some b =>
        rw [eb] at hv
        cases hv
        have hl : ((bs.take i).map fun b => V.int (if b = true then 1 else 0)).length < sizeLine := by
          rw [List.length_map, List.length_take, sizeLine_eq]; omega
        walk_at "rd"
        exact ⟨s6.frsh hD, by rw [upd_same, List.take_add_one, eb, List.map_append]; rfl⟩
    · rintro H' ⟨s6, hD'⟩
      rw [List.length_map, List.take_length] at hD'
      have hD2 : H' D = some (.lst ((bs.map fun b => if b = true then (1 : Int) else 0).map V.int)) := by rw [List.map_map]; exact hD'
      walk_at "rd"
      rw [sm]
      exact k H' (s5.trans s6)
/-! ### k06: the law enters -/
theorem no_BadMode_mode (T : Txt K mg a d) : PySem.W.findIn K (.ref a.BadMode) "mode" = some none := T.e_BadMode.noF ("mode", .inl 0) (by simp [ef_BadMode])
theorem no_Missing_word (T : Txt K mg a d) : PySem.W.findIn K (.ref a.Missing) "word" = some none := T.e_Missing.noF ("word", .inr "missing") (by simp [ef_Missing])
theorem no_Missing_mode (T : Txt K mg a d) : PySem.W.findIn K (.ref a.Missing) "mode" = some none := T.e_Missing.noF ("mode", .inl 0) (by simp [ef_Missing])
theorem no_Present_word (T : Txt K mg a d) : PySem.W.findIn K (.ref a.Present) "word" = some none := T.e_Present.noF ("word", .inr "present") (by simp [ef_Present])
theorem no_Present_mode (T : Txt K mg a d) : PySem.W.findIn K (.ref a.Present) "mode" = some none := T.e_Present.noF ("mode", .inl 0) (by simp [ef_Present])
theorem no_Doomed_word (T : Txt K mg a d) : PySem.W.findIn K (.ref a.Doomed) "word" = some none := T.e_Doomed.noF ("word", .inr "doomed") (by simp [ef_Doomed])
theorem no_Doomed_first (T : Txt K mg a d) : PySem.W.findIn K (.ref a.Doomed) "first" = some none := T.e_Doomed.noF ("first", .inl 0) (by simp [ef_Doomed])
def wdE : EK → Str
  | .badmode _ => "badmode"
  | .missing _ => "missing"
  | .present _ => "present"
  | .doomed _ => "doomed"
  | .badword _ => "badword"
  | .norecord _ => "norecord"
  | _ => "noblock"
def agE : EK → V
  | .badmode v => v
  | .missing z => .str z
  | .present z => .str z
  | .doomed z => .str z
  | .badword v => v
  | .norecord z => .str z
  | _ => .non
theorem enterV_err (D : Db) (v : V) : ∀ e, (enterV D v).2 = some e → (∃ z, e = .missing z) ∨ (∃ z, e = .present z) ∨ (∃ z, e = .doomed z) ∨ e = .badmode v := by
  intro e he
  unfold enterV at he
  split at he
  · cases v with
    | str m =>
      dsimp only at he
      unfold enterD at he
      split at he
      · unfold aloneD at he
        repeat' split at he
        all_goals first | cases he; done | (cases he; exact .inl ⟨_, rfl⟩)
      · unfold lvlD at he
        repeat' split at he
        all_goals first | cases he; done | (cases he; first | exact .inr (.inl ⟨_, rfl⟩) | exact .inr (.inr (.inl ⟨_, rfl⟩)))
      · cases he
    | _ => cases he
  · cases he
    exact .inr (.inr (.inr rfl))
def spEn6 (a : Ad) : Sp := fun vs H Q _ => ∃ L D v, vs = [.ref L.db, v] ∧ Thing H v ∧ DB a H L D ∧ Sm D ∧
  ∀ H' L', DB a H' L' (enterV D v).1 → Fr H H' L L' → match (enterV D v).2 with
    | none => Q .non H'
    | some e => ∀ t, H' t = some (.tup [.str (wdE e), agE e, .bl true]) → Q (.ref t) H'
theorem ok_law_enter (T : Txt K mg a d) : FnOk P w K mg base CX0 6 a.law_enter d.law_enter ["_law_db", "_law_mode"] (spEn6 a) := by
  have G_Database_enter : FnOk P w K mg base (L2N.CX P w) 5 a.Database_enter d.Database_enter ["self", "mode"] (spEnter a) := ok_Database_enter T
  have G_law_single : FnHP P w K mg base CX0 2 a.law_single d.law_single ["_law_e"] (spSingle a) := ok_law_single T
  refine T.law_enter.ok sc_law_enter (fun vs H Q E h => ?_) (fun cdv A outer s H vs Q E hr h => ?_)
  · obtain ⟨L, D, v, rfl, _⟩ := h
    rfl
  · obtain ⟨L, D, v, rfl, tv, hD, hm, k⟩ := h
    have h1 := hD.db
    refine ⟨_, (pss_cons (ps_tryA rfl rfl sc_law_enter.nd takes0 (fun W pn xe tk po => (pss_one (ps_expr (pe_methSD (pv 0) T.k_Database T.m_Database_enter G_Database_enter (hr.mono (by decide)) T.b_Database_enter .nil (fun σ => passAt tk σ) (pa_cons (pv 1) pa_nil))))) (.consA (i := 2) (.intro (by rfl) (And.intro (by decide) (Or.inl T.g_BadMode))) rfl rfl (fun _ _ _ _ _ hz hf => (pss_one (ps_ret (pe_tup (pa_cons pe_str (pa_cons (pe_xf (xfc T.e_BadMode) (no_BadMode_mode T) hz.zc hf (pv 2)) (pa_cons (pe_callHZ G_law_single ⟨(hr.mono (by decide : 2 ≤ 5)).dp, (hr.mono (by decide : 2 ≤ 5)).un⟩ rfl List.mem_cons_self hz hf (by rfl) T.g_law_single T.law_single.kp T.b_law_single (fun _ => passH) (pa_cons (pv 2) pa_nil)) pa_nil))))))) (.consA (i := 2) (.intro (by rfl) (And.intro (by decide) (Or.inl T.g_Missing))) rfl rfl (fun _ _ _ _ _ hz hf => (pss_one (ps_ret (pe_tup (pa_cons (pe_xf (xfc T.e_Missing) (no_Missing_word T) hz.zc hf (pv 2)) (pa_cons (pe_xf (xfc T.e_Missing) (no_Missing_mode T) hz.zc hf (pv 2)) (pa_cons (pe_callHZ G_law_single ⟨(hr.mono (by decide : 2 ≤ 5)).dp, (hr.mono (by decide : 2 ≤ 5)).un⟩ rfl List.mem_cons_self hz hf (by rfl) T.g_law_single T.law_single.kp T.b_law_single (fun _ => passH) (pa_cons (pv 2) pa_nil)) pa_nil))))))) (.consA (i := 2) (.intro (by rfl) (And.intro (by decide) (Or.inl T.g_Present))) rfl rfl (fun _ _ _ _ _ hz hf => (pss_one (ps_ret (pe_tup (pa_cons (pe_xf (xfc T.e_Present) (no_Present_word T) hz.zc hf (pv 2)) (pa_cons (pe_xf (xfc T.e_Present) (no_Present_mode T) hz.zc hf (pv 2)) (pa_cons (pe_callHZ G_law_single ⟨(hr.mono (by decide : 2 ≤ 5)).dp, (hr.mono (by decide : 2 ≤ 5)).un⟩ rfl List.mem_cons_self hz hf (by rfl) T.g_law_single T.law_single.kp T.b_law_single (fun _ => passH) (pa_cons (pv 2) pa_nil)) pa_nil))))))) (.consA (i := 2) (.intro (by rfl) (And.intro (by decide) (Or.inl T.g_Doomed))) rfl rfl (fun _ _ _ _ _ hz hf => (pss_one (ps_ret (pe_tup (pa_cons (pe_xf (xfc T.e_Doomed) (no_Doomed_word T) hz.zc hf (pv 2)) (pa_cons (pe_xf (xfc T.e_Doomed) (no_Doomed_first T) hz.zc hf (pv 2)) (pa_cons (pe_callHZ G_law_single ⟨(hr.mono (by decide : 2 ≤ 5)).dp, (hr.mono (by decide : 2 ≤ 5)).un⟩ rfl List.mem_cons_self hz hf (by rfl) T.g_law_single T.law_single.kp T.b_law_single (fun _ => passH) (pa_cons (pv 2) pa_nil)) pa_nil))))))) .nil)))))
  (pss_one (ps_ret pe_non))), ?_⟩
    dsimp only [cxOf]
    walk_at "rd"
    refine ⟨L, D, v, rfl, tv, hD, hm, fun H' L' hD' f' => ?_⟩
    have ek := enterV_err D v
    have k2 : ∀ e, (enterV D v).2 = some e → ∀ H2, Same H' H2 → ∀ t, H2 t = none → Q (.ref t) (upd H2 t (.tup [.str (wdE e), agE e, .bl true])) := fun e he H2 s2 t ht => by
      have s3 := s2.new (o := .tup [.str (wdE e), agE e, .bl true]) ht
      have z := k _ L' (hD'.keep fun b u _ e => s3 b u e) (f'.trans (Fr.same s3))
      rw [he] at z
      exact z t upd_same
    cases he : (enterV D v).2 with
    | none =>
      have z := k H' L' hD' f'
      rw [he] at z
      exact z
    | some e =>
      have k3 := k2 e he
      rcases ek e he with ⟨z, rfl⟩ | ⟨z, rfl⟩ | ⟨z, rfl⟩ | rfl
      · intro dd g1
        refine ⟨false, T.x_Missing_BadMode, (fun z => by cases z), fun _ => ⟨true, T.e_Missing.te, fun _ x hx => ?_, (fun z => by cases z)⟩⟩
        have s4 := (Same.refl H').new (o := .xd (errF [.str z] ef_Missing [])) g1
        unfold wCl
        walk_at "rd"
        intro p e1 hz hv
        refine ⟨3, a.Missing, by rw [e1], rfl, ⟨_, hz, hv, fun d e => by cases e; exact ⟨_, upd_same⟩⟩, fun H5 s5 => ?_⟩
        walk_at "rd"
        intro t ht
        exact k3 _ (s4.trans s5) t ht
      · intro dd g1
        refine ⟨false, T.x_Present_BadMode, (fun z => by cases z), fun _ => ⟨false, T.x_Present_Missing, (fun z => by cases z), fun _ => ⟨true, T.e_Present.te, fun _ x hx => ?_, (fun z => by cases z)⟩⟩⟩
        have s4 := (Same.refl H').new (o := .xd (errF [.str z] ef_Present [])) g1
        unfold wCl
        walk_at "rd"
        intro p e1 hz hv
        refine ⟨6, a.Present, by rw [e1], rfl, ⟨_, hz, hv, fun d e => by cases e; exact ⟨_, upd_same⟩⟩, fun H5 s5 => ?_⟩
        walk_at "rd"
        intro t ht
        exact k3 _ (s4.trans s5) t ht
      · intro dd g1
        refine ⟨false, T.x_Doomed_BadMode, (fun z => by cases z), fun _ => ⟨false, T.x_Doomed_Missing, (fun z => by cases z), fun _ => ⟨false, T.x_Doomed_Present, (fun z => by cases z), fun _ => ⟨true, T.e_Doomed.te, fun _ x hx => ?_, (fun z => by cases z)⟩⟩⟩⟩
        have s4 := (Same.refl H').new (o := .xd (errF [.str z] ef_Doomed [])) g1
        unfold wCl
        walk_at "rd"
        intro p e1 hz hv
        refine ⟨2, a.Doomed, by rw [e1], rfl, ⟨_, hz, hv, fun d e => by cases e; exact ⟨_, upd_same⟩⟩, fun H5 s5 => ?_⟩
        walk_at "rd"
        intro t ht
        exact k3 _ (s4.trans s5) t ht
      · intro dd g1
        refine ⟨true, T.e_BadMode.te, fun _ x hx => ?_, (fun z => by cases z)⟩
        have s4 := (Same.refl H').new (o := .xd (errF [v] ef_BadMode [])) g1
        unfold wCl
        walk_at "rd"
        intro p e1 hz hv
        refine ⟨0, a.BadMode, by rw [e1], rfl, ⟨_, hz, hv, fun d e => by cases e; exact ⟨_, upd_same⟩⟩, fun H5 s5 => ?_⟩
        walk_at "rd"
        intro t ht
        exact k3 _ (s4.trans s5) t ht
/-! ### k06: another wrong call -/
theorem no_BadWord_word (T : Txt K mg a d) : PySem.W.findIn K (.ref a.BadWord) "word" = some none := T.e_BadWord.noF ("word", .inl 0) (by simp [ef_BadWord])
theorem no_NoRecord_record (T : Txt K mg a d) : PySem.W.findIn K (.ref a.NoRecord) "record" = some none := T.e_NoRecord.noF ("record", .inl 0) (by simp [ef_NoRecord])
def otE (D : Db) (n : Int) (u : V) (e : EK) : Prop :=
  (n = 0 ∧ wordB u = false ∧ e = .badword u) ∨ (n = 1 ∧ getV D u = .inr e ∧ (e = .badword u ∨ ∃ z, e = .norecord z)) ∨ (n = 2 ∧ wordB u = false ∧ e = .badword u) ∨ (n = 3 ∧ leaveV D u true = (D, some e) ∧ (e = .badword u ∨ e = .noblock))
def spOt6 (a : Ad) : Sp := fun vs H Q _ => ∃ L D n u e, vs = [.ref L.db, .int n, u] ∧ Thing H u ∧ DB a H L D ∧ Sm D ∧ 0 ≤ D.floor ∧ Wf D.entered D.stack ∧ otE D n u e ∧
  ∀ H' L', DB a H' L' D → Fr H H' L L' → ∀ t, H' t = some (.tup [.str (wdE e), agE e, .bl true]) → Q (.ref t) H'
theorem ok_law_other (T : Txt K mg a d) : FnOk P w K mg base CX0 6 a.law_other d.law_other ["_law_db", "_law_sort", "_law_thing"] (spOt6 a) := by
  have G_DatabaseU_setitemU : FnOk P w K mg base (L2N.CX P w) 5 a.DatabaseU_setitemU d.DatabaseU_setitemU ["self", "record", "value"] (spSet a) := ok_DatabaseU_setitemU T
  have G_DatabaseU_getitemU : FnOk P w K mg base (L2N.CX P w) 2 a.DatabaseU_getitemU d.DatabaseU_getitemU ["self", "record"] (spGet a) := ok_DatabaseU_getitemU T
  have G_Database_doom : FnOk P w K mg base (L2N.CX P w) 2 a.Database_doom d.Database_doom ["self", "first"] (spDoom a) := ok_Database_doom T
  have G_Database_leave : FnOk P w K mg base (L2N.CX P w) 3 a.Database_leave d.Database_leave ["self", "error", "commits"] (spLeave a) := ok_Database_leave T
  have G_law_single : FnHP P w K mg base CX0 2 a.law_single d.law_single ["_law_e"] (spSingle a) := ok_law_single T
  obtain ⟨_, vl_leave1, bl_leave1⟩ := bd_leave1 T
  refine T.law_other.ok sc_law_other (fun vs H Q E h => ?_) (fun cdv A outer s H vs Q E hr h => ?_)
  · obtain ⟨L, D, n, u, e, rfl, _⟩ := h
    rfl
  · obtain ⟨L, D, n, u, e, rfl, tu, hD, hm, hfl, hwf, ho, k⟩ := h
    have h1 := hD.db
    refine ⟨_, (pss_cons (ps_tryA rfl rfl sc_law_other.nd takes0 (fun W pn xe tk po => (pss_one (ps_if (pt_cmpR op_eq (pv 1) pe_int (nomark _)) (pss_one (ps_asg pe_int (pg_setO (pv 0) (pv 2) T.m_DatabaseU_setitemU T.ns_Database G_DatabaseU_setitemU (hr.mono (by decide)) T.b_DatabaseU_setitemU (fun σ => passAt tk σ)))) (pss_one (ps_if (pt_cmpR op_eq (pv 1) pe_int (nomark _)) (pss_one (ps_ret (pe_tup (pa_cons pe_str (pa_cons (pe_getO (pv 0) (pv 2) T.m_DatabaseU_getitemU T.fi_DatabaseU_getitemU G_DatabaseU_getitemU (hr.mono (by decide)) T.b_DatabaseU_getitemU (fun σ => passAt tk σ)) (pa_cons pe_bl pa_nil)))))) (pss_one (ps_if (pt_cmpR op_eq (pv 1) pe_int (nomark _)) (pss_one (ps_expr (pe_methSD (pv 0) T.k_Database T.m_Database_doom G_Database_doom (hr.mono (by decide)) (bd_doom T) .nil (fun σ => passAt tk σ) (pa_cons (pv 2) pa_nil)))) (pss_one (ps_expr (pe_methSD (pv 0) T.k_Database T.m_Database_leave G_Database_leave (hr.mono (by decide)) bl_leave1 vl_leave1 (fun σ => passAt tk σ) (pa_cons (pv 2) pa_nil))))))))))) (.consA (i := 3) (.intro (by rfl) (And.intro (by decide) (Or.inl T.g_BadWord))) rfl rfl (fun _ _ _ _ _ hz hf => (pss_one (ps_ret (pe_tup (pa_cons pe_str (pa_cons (pe_xf (xfc T.e_BadWord) (no_BadWord_word T) hz.zc hf (pv 3)) (pa_cons (pe_callHZ G_law_single ⟨(hr.mono (by decide : 2 ≤ 5)).dp, (hr.mono (by decide : 2 ≤ 5)).un⟩ rfl List.mem_cons_self hz hf (by rfl) T.g_law_single T.law_single.kp T.b_law_single (fun _ => passH) (pa_cons (pv 3) pa_nil)) pa_nil))))))) (.consA (i := 3) (.intro (by rfl) (And.intro (by decide) (Or.inl T.g_NoRecord))) rfl rfl (fun _ _ _ _ _ hz hf => (pss_one (ps_ret (pe_tup (pa_cons pe_str (pa_cons (pe_xf (xfc T.e_NoRecord) (no_NoRecord_record T) hz.zc hf (pv 3)) (pa_cons (pe_callHZ G_law_single ⟨(hr.mono (by decide : 2 ≤ 5)).dp, (hr.mono (by decide : 2 ≤ 5)).un⟩ rfl List.mem_cons_self hz hf (by rfl) T.g_law_single T.law_single.kp T.b_law_single (fun _ => passH) (pa_cons (pv 3) pa_nil)) pa_nil))))))) (.consA (i := 3) (.intro (by rfl) (And.intro (by decide) (Or.inl T.g_NoBlock))) rfl rfl (fun _ _ _ _ _ hz hf => (pss_one (ps_ret (pe_tup (pa_cons pe_str (pa_cons pe_non (pa_cons (pe_callHZ G_law_single ⟨(hr.mono (by decide : 2 ≤ 5)).dp, (hr.mono (by decide : 2 ≤ 5)).un⟩ rfl List.mem_cons_self hz hf (by rfl) T.g_law_single T.law_single.kp T.b_law_single (fun _ => passH) (pa_cons (pv 3) pa_nil)) pa_nil))))))) .nil))))
  (pss_one (ps_ret pe_non))), ?_⟩
    dsimp only [cxOf]
    have k2 : ∀ {H' L'}, DB a H' L' D → Fr H H' L L' → ∀ H2, Same H' H2 → ∀ t, H2 t = none → Q (.ref t) (upd H2 t (.tup [.str (wdE e), agE e, .bl true])) := fun {H' L'} hD' f' H2 s2 t ht => by
      have s3 := s2.new (o := .tup [.str (wdE e), agE e, .bl true]) ht
      exact k _ L' (hD'.keep fun b u _ e => s3 b u e) (f'.trans (Fr.same s3)) t upd_same
    rcases ho with ⟨rfl, hb, rfl⟩ | ⟨rfl, hg, hb⟩ | ⟨rfl, hb, rfl⟩ | ⟨rfl, hl, hb⟩
    · walk_at "rd"
      refine ⟨L, D, u, .int 1, rfl, tu, hD, hm, fun H' L' hD' f' => ?_⟩
      rw [show setV D u (.int 1) = (D, some (.badword u)) from if_neg (by rw [hb]; simp)] at hD' ⊢
      intro dd g1
      refine ⟨true, T.e_BadWord.te, fun _ x hx => ?_, (fun z => by cases z)⟩
      have s4 := (Same.refl H').new (o := .xd (errF [u] ef_BadWord [])) g1
      unfold wCl
      walk_at "rd"
      intro p e1 hz hv
      refine ⟨1, a.BadWord, by rw [e1], rfl, ⟨_, hz, hv, fun d e => by cases e; exact ⟨_, upd_same⟩⟩, fun H5 s5 => ?_⟩
      walk_at "rd"
      intro t ht
      exact k2 hD' f' _ (s4.trans s5) t ht
    · walk_at "rd"
      refine ⟨L, D, u, rfl, tu, hD, hm, fun H' s' => ?_⟩
      rw [hg]
      have hD' : DB a H' L D := hD.keep fun b u _ e => s' b u e
      have f' : Fr H H' L L := Fr.same s'
      rcases hb with rfl | ⟨z, rfl⟩
      · intro dd g1
        refine ⟨true, T.e_BadWord.te, fun _ x hx => ?_, (fun z => by cases z)⟩
        have s4 := (Same.refl H').new (o := .xd (errF [u] ef_BadWord [])) g1
        unfold wCl
        walk_at "rd"
        intro p e1 hz hv
        refine ⟨1, a.BadWord, by rw [e1], rfl, ⟨_, hz, hv, fun d e => by cases e; exact ⟨_, upd_same⟩⟩, fun H5 s5 => ?_⟩
        walk_at "rd"
        intro t ht
        exact k2 hD' f' _ (s4.trans s5) t ht
      · intro dd g1
        refine ⟨false, T.x_NoRecord_BadWord, (fun z => by cases z), fun _ => ⟨true, T.e_NoRecord.te, fun _ x hx => ?_, (fun z => by cases z)⟩⟩
        have s4 := (Same.refl H').new (o := .xd (errF [.str z] ef_NoRecord [])) g1
        unfold wCl
        walk_at "rd"
        intro p e1 hz hv
        refine ⟨5, a.NoRecord, by rw [e1], rfl, ⟨_, hz, hv, fun d e => by cases e; exact ⟨_, upd_same⟩⟩, fun H5 s5 => ?_⟩
        walk_at "rd"
        intro t ht
        exact k2 hD' f' _ (s4.trans s5) t ht
    · walk_at "rd"
      refine ⟨L, D, u, rfl, tu, hD, fun H' L' hD' f' => ?_⟩
      rw [show doomV D u = (D, some (.badword u)) from if_neg (by rw [hb]; simp)] at hD' ⊢
      intro dd g1
      refine ⟨true, T.e_BadWord.te, fun _ x hx => ?_, (fun z => by cases z)⟩
      have s4 := (Same.refl H').new (o := .xd (errF [u] ef_BadWord [])) g1
      unfold wCl
      walk_at "rd"
      intro p e1 hz hv
      refine ⟨1, a.BadWord, by rw [e1], rfl, ⟨_, hz, hv, fun d e => by cases e; exact ⟨_, upd_same⟩⟩, fun H5 s5 => ?_⟩
      walk_at "rd"
      intro t ht
      exact k2 hD' f' _ (s4.trans s5) t ht
    · walk_at "rd"
      refine ⟨L, D, u, true, rfl, tu, hD, hm, hfl, hwf, fun H' L' hD' f' => ?_⟩
      rw [hl] at hD' ⊢
      rcases hb with rfl | rfl
      · intro dd g1
        refine ⟨true, T.e_BadWord.te, fun _ x hx => ?_, (fun z => by cases z)⟩
        have s4 := (Same.refl H').new (o := .xd (errF [u] ef_BadWord [])) g1
        unfold wCl
        walk_at "rd"
        intro p e1 hz hv
        refine ⟨1, a.BadWord, by rw [e1], rfl, ⟨_, hz, hv, fun d e => by cases e; exact ⟨_, upd_same⟩⟩, fun H5 s5 => ?_⟩
        walk_at "rd"
        intro t ht
        exact k2 hD' f' _ (s4.trans s5) t ht
      · refine ⟨false, T.x_NoBlock_BadWord, (fun z => by cases z), fun _ => ⟨false, T.x_NoBlock_NoRecord, (fun z => by cases z), fun _ => ⟨true, T.e_NoBlock.te, fun _ x hx => ?_, (fun z => by cases z)⟩⟩⟩
        unfold wCl
        walk_at "rd"
        intro p e1 hz hv
        refine ⟨4, a.NoBlock, by rw [e1], rfl, ⟨_, hz, hv, fun d e => by cases e⟩, fun H5 s5 => ?_⟩
        walk_at "rd"
        intro t ht
        exact k2 hD' f' _ s5 t ht
/-! ### k06: _law_seen -/
def spSeen6 (a : Ad) : Sp := fun vs H Q _ => ∃ L D m, vs = [.ref L.db] ∧ DB a H L D ∧ Gd D m ∧ m ≤ 200 ∧ ∀ H', Same H H' → Q (.str (seenD D D.rows).shown) H'
theorem ok_law_seen (T : Txt K mg a d) : FnG P w K mg base CX0 5 a.law_seen d.law_seen ["_law_db"] (spSeen6 a) := by
  have G_Database_is_open : FnOk P w K mg base CX0 1 a.Database_is_open d.Database_is_open ["self"] (spProp a fun D => .bl (openD D)) := ok_Database_is_open T
  have G_Database_is_doomed : FnOk P w K mg base CX0 1 a.Database_is_doomed d.Database_is_doomed ["self"] (spProp a fun D => .bl (reasonD D).isSome) := ok_Database_is_doomed T
  have G_Database_reason : FnOk P w K mg base CX0 1 a.Database_reason d.Database_reason ["self"] (spProp a fun D => oV (reasonD D)) := ok_Database_reason T
  have G_Database_levels : FnOk P w K mg base CX0 1 a.Database_levels d.Database_levels ["self"] (spProp a fun D => .int (levelsD D : Int)) := ok_Database_levels T
  have G_Database_depth : FnOk P w K mg base CX0 1 a.Database_depth d.Database_depth ["self"] (spProp a fun D => .int (D.entered.length : Int)) := ok_Database_depth T
  have G_Database_fates : GFn P w K mg base 1 a.Database_fates d.Database_fates ["self"] (spFates a) := ok_Database_fates T
  have G_Database_held_records : FnOk P w K mg base CX0 2 a.Database_held_records d.Database_held_records ["self"] (spRecs a ownL) := ok_Database_held_records T
  have G_Database_outer_records : FnOk P w K mg base CX0 2 a.Database_outer_records d.Database_outer_records ["self"] (spRecs a outerL) := ok_Database_outer_records T
  have G_Database_kept_values : FnOk P w K mg base CX0 1 a.Database_kept_values d.Database_kept_values ["self"] (spKept a) := ok_Database_kept_values T
  refine okG T.law_seen sc_law_seen (fun vs H Q E h => ?_) (fun cdv A outer s H vs Q E hr hgd h => ?_)
  · obtain ⟨L, D, m, rfl, _⟩ := h
    rfl
  · obtain ⟨L, D, m, rfl, hD, g, hm2, k⟩ := h
    have hm := g.sm (by omega)
    have hx := hD.db
    refine ⟨_, (pss_cons (ps_set (i := 1) sc_law_seen.nd rfl (Or.inl rfl) (pe_lst (pa_cons (pe_prop (pv 0) T.k_Database T.m_Database_is_open G_Database_is_open (hr.mono (by decide)) T.b_Database_is_open .nil pass0 rfl) (pa_cons (pe_prop (pv 0) T.k_Database T.m_Database_is_doomed G_Database_is_doomed (hr.mono (by decide)) T.b_Database_is_doomed .nil pass0 rfl) (pa_cons (pe_prop (pv 0) T.k_Database T.m_Database_reason G_Database_reason (hr.mono (by decide)) T.b_Database_reason .nil pass0 rfl) (pa_cons (pe_prop (pv 0) T.k_Database T.m_Database_levels G_Database_levels (hr.mono (by decide)) T.b_Database_levels .nil pass0 rfl) (pa_cons (pe_prop (pv 0) T.k_Database T.m_Database_depth G_Database_depth (hr.mono (by decide)) T.b_Database_depth .nil pass0 rfl) pa_nil)))))))
  (pss_one (ps_ret (pe_callB (call_reprD hgd hr.units) (by rfl) T.n_repr (by decide +kernel) (pa_cons (pe_lst (pa_cons (pv 1) (pa_cons (pe_meth0 (pv 0) T.k_Database T.m_Database_held_records G_Database_held_records (hr.mono (by decide)) T.b_Database_held_records .nil pass0) (pa_cons (pe_meth0 (pv 0) T.k_Database T.m_Database_outer_records G_Database_outer_records (hr.mono (by decide)) T.b_Database_outer_records .nil pass0) (pa_cons (pe_meth0 (pv 0) T.k_Database T.m_Database_kept_values G_Database_kept_values (hr.mono (by decide)) T.b_Database_kept_values .nil pass0) (pa_cons (pe_listG (pgen_meth0 (pv 0) T.k_Database T.m_Database_fates G_Database_fates (hr.mono (by decide)) T.b_Database_fates .nil) L2.passL noStop0 (hr.mono (by decide)) (by rfl) T.n_list (by decide +kernel)) pa_nil)))))) pa_nil))))), ?_⟩
    dsimp only [cxOf]
    walk_at "rd"
    refine ⟨L, D, rfl, hD, hm, ?_⟩
    walk_at "rd"
    refine ⟨L, D, rfl, hD, hm, ?_⟩
    walk_at "rd"
    refine ⟨L, D, rfl, hD, hm, ?_⟩
    walk_at "rd"
    refine ⟨L, D, rfl, hD, hm, ?_⟩
    walk_at "rd"
    refine ⟨L, D, rfl, hD, hm, ?_⟩
    walk_at "rd"
    intro p1 hp1
    have s1 := (Same.refl H).new (o := .lst [.bl (openD D), .bl (reasonD D).isSome, oV (reasonD D), .int (levelsD D : Int), .int (D.entered.length : Int)]) hp1
    have u1 := upd_same (H := H) (a := p1) (o := .lst [.bl (openD D), .bl (reasonD D).isSome, oV (reasonD D), .int (levelsD D : Int), .int (D.entered.length : Int)])
    generalize upd H p1 (.lst [.bl (openD D), .bl (reasonD D).isSome, oV (reasonD D), .int (levelsD D : Int), .int (D.entered.length : Int)]) = H1 at s1 u1 ⊢
    have hD4 := hD.keep fun b u _ e => s1 b u e
    have hx4 := hD4.db
    walk_at "rd"
    refine ⟨L, D, rfl, hD4, hm, fun H5 q5 s5 u5 _ => ?_⟩
    have hD5 := hD4.keep fun b u _ e => s5 b u e
    have hx5 := hD5.db
    walk_at "rd"
    refine ⟨L, D, rfl, hD5, hm, fun H6 q6 s6 u6 _ => ?_⟩
    have hD6 := hD5.keep fun b u _ e => s6 b u e
    have hx6 := hD6.db
    walk_at "rd"
    refine ⟨L, D, rfl, hD6, hm, fun H7 q7 s7 u7 _ => ?_⟩
    have hD7 := hD6.keep fun b u _ e => s7 b u e
    have hx7 := hD7.db
    walk_at "rd"
    refine ⟨L, D, rfl, hD7, hm, fun H8 ts s8 ha => ?_⟩
    intro S g2
    have s9 := s8.new (o := .lst (ts.map V.ref)) g2
    have uS := upd_same (H := H8) (a := S) (o := .lst (ts.map V.ref))
    have ha2 : All2 (TupAt (upd H8 S (.lst (ts.map V.ref)))) ts D.rows := ha.imp fun x y _ z => upd_old z g2
    generalize upd H8 S (.lst (ts.map V.ref)) = H9 at s9 uS ha2 ⊢
    walk_at "rd"
    intro q8 hq8
    have s47 := s5.trans (s6.trans (s7.trans s9))
    have v1 := upd_old (o := .lst [.ref p1, .ref q5, .ref q6, .ref q7, .ref S]) (s47 _ _ u1) hq8
    have v5 := upd_old (o := .lst [.ref p1, .ref q5, .ref q6, .ref q7, .ref S]) (s9 _ _ (s7 _ _ (s6 _ _ u5))) hq8
    have v6 := upd_old (o := .lst [.ref p1, .ref q5, .ref q6, .ref q7, .ref S]) (s9 _ _ (s7 _ _ u6)) hq8
    have v7 := upd_old (o := .lst [.ref p1, .ref q5, .ref q6, .ref q7, .ref S]) (s9 _ _ u7) hq8
    have vS := upd_old (o := .lst [.ref p1, .ref q5, .ref q6, .ref q7, .ref S]) uS hq8
    have hu8 : All2 (TupAt (upd H9 q8 (.lst [.ref p1, .ref q5, .ref q6, .ref q7, .ref S]))) ts D.rows := ha2.imp fun x y _ z => upd_old z hq8
    obtain ⟨k1, k2, k3⟩ := seen_ok g hm2 g.rd g.r
    refine ⟨_, seenD D D.rows, rfl, ?_, k1, k2, k3, k _ ((s1.trans s47).new hq8)⟩
    refine .lst (SqL.of upd_same) (.cons (.lst (SqL.of v1) (.cons (.bl _) (.cons (.bl _) (.cons (dq_o _) (.cons (.int _) (.cons (.int _) .nil)))))) (.cons (.lst (SqL.of v5) (dq_strs _)) (.cons (.lst (SqL.of v6) (dq_strs _)) (.cons (.dct v7 (dq_kv fun p hp => ?_)) (.cons (.lst (SqL.of vS) (dq_rows hu8 g.rd)) .nil)))))
    obtain ⟨r, hr, e⟩ := keptD_mem hp
    obtain ⟨_, ⟨i, e2, _⟩, _⟩ := g.rd r hr
    exact ⟨i, by rw [e]; exact e2⟩
/-! ### k06: _law_built -/
theorem enterV_keep (D : Db) (v : V) : (enterV D v).1.rows = D.rows ∧ (enterV D v).1.floor = D.floor := by
  unfold enterV
  split
  · cases v with
    | str m =>
      dsimp only
      unfold enterD
      split
      · unfold aloneD
        repeat' split
        all_goals exact ⟨rfl, rfl⟩
      · unfold lvlD
        repeat' split
        all_goals exact ⟨rfl, rfl⟩
      · exact ⟨rfl, rfl⟩
    | _ => exact ⟨rfl, rfl⟩
  · exact ⟨rfl, rfl⟩
theorem doomD_keep (D : Db) (z : Str) : (doomD D z).rows = D.rows ∧ (doomD D z).floor = D.floor := by
  unfold doomD
  split
  · exact ⟨rfl, rfl⟩
  · exact ⟨rfl, rfl⟩
theorem writeD_ok {D : Db} {m : Nat} {z : Str} {v : V} (g : Gd D m) (h1 : z ∉ outerL D) (h2 : (reasonD D).isSome = false) : ∃ r : Row, writeD D z v = (addD D r, none) ∧ r.rcd = z := by
  unfold writeD
  unfold reasonD at h2
  rcases g.top with ⟨st, e⟩ | ⟨k, y, rs, st, e⟩
  · rw [e]
    dsimp only
    rw [if_neg h1]
    exact ⟨_, rfl, rfl⟩
  · rw [e] at h2 ⊢
    dsimp only at h2 ⊢
    cases y with
    | some y => cases h2
    | none =>
      dsimp only
      rw [if_neg h1]
      exact ⟨_, rfl, rfl⟩
def usedL (D : Db) : List V := D.rows.map fun r => V.str r.rcd
theorem used_add (D : Db) (r : Row) : usedL (addD D r) = usedL D ++ [V.str r.rcd] := by
  unfold usedL addD
  rw [List.map_append]; rfl
theorem used_len {D : Db} {m : Nat} (g : Gd D m) : (usedL D).length ≤ m := by
  unfold usedL
  rw [List.length_map]; exact g.r
def spBu6 (a : Ad) : Sp := fun vs H Q _ => ∃ H0 pp o c, vs = [.ref pp] ∧ Wd a H0 H [] [(pp, o)] ∧ PoolO o c ∧ c < 2 ^ 30 ∧
  ∀ H' t q ml L D o', Wd a H0 H' [(L, D)] [(pp, o'), (ml, .lst modesV), (q, .lst (usedL D))] → H' t = some (.tup [.ref L.db, .ref q]) → PoolO o' (c + 500) → Gd D 60 → D.floor = 0 → Q (.ref t) H'
theorem ok_law_built (T : Txt K mg a d) : FnOk P w K mg base CX0 7 a.law_built d.law_built ["_law_pool_here"] (spBu6 a) := by
  have G_law_draw : FnOk P w K mg base CX0 1 a.law_draw d.law_draw ["_law_pool_here", "_law_many"] spDraw := ok_law_draw T
  have G_law_word : FnOk P w K mg base CX0 2 a.law_word d.law_word ["_law_pool_here"] spWord := ok_law_word T
  have G_DatabaseU_initU : FnOk P w K mg base CX0 1 a.DatabaseU_initU d.DatabaseU_initU ["self"] (spDbI a) := ok_DatabaseU_initU T
  have G_law_enter : FnOk P w K mg base CX0 6 a.law_enter d.law_enter ["_law_db", "_law_mode"] (spEn6 a) := ok_law_enter T
  have G_Database_outer_records : FnOk P w K mg base CX0 2 a.Database_outer_records d.Database_outer_records ["self"] (spRecs a outerL) := ok_Database_outer_records T
  have G_Database_is_doomed : FnOk P w K mg base CX0 1 a.Database_is_doomed d.Database_is_doomed ["self"] (spProp a fun D => .bl (reasonD D).isSome) := ok_Database_is_doomed T
  have G_DatabaseU_setitemU : FnOk P w K mg base (L2N.CX P w) 5 a.DatabaseU_setitemU d.DatabaseU_setitemU ["self", "record", "value"] (spSet a) := ok_DatabaseU_setitemU T
  have G_Database_doom : FnOk P w K mg base (L2N.CX P w) 2 a.Database_doom d.Database_doom ["self", "first"] (spDoom a) := ok_Database_doom T
  refine T.law_built.ok sc_law_built (fun vs H Q E h => ?_) (fun cdv A outer s H vs Q E hr h => ?_)
  · obtain ⟨H0, pp, o, c, rfl, _⟩ := h
    rfl
  · obtain ⟨H0, pp, o, c, rfl, W, ho, hc, k⟩ := h
    refine ⟨_, (pss_cons (ps_set (i := 1) sc_law_built.nd rfl (Or.inl rfl) (pe_lst (pa_cons pe_str (pa_cons pe_str (pa_cons pe_str (pa_cons pe_str (pa_cons pe_str (pa_cons pe_str (pa_cons pe_str (pa_cons pe_str pa_nil))))))))))
  (pss_cons (ps_set (i := 2) sc_law_built.nd rfl (Or.inl rfl) (pe_make0 T.mk_Database G_DatabaseU_initU (hr.mono (by decide)) (by rfl) T.g_Database T.b_DatabaseU_initU .nil pass0))
  (pss_cons (ps_set (i := 3) sc_law_built.nd rfl (Or.inl rfl) (pe_lst pa_nil))
  (pss_cons (ps_for PassesOwn.never rfl (pi_range1 (by rfl) T.n_range (pa_cons (pe_call G_law_draw (hr.mono (by decide)) (by rfl) T.g_law_draw T.law_draw.kp T.b_law_draw .nil pass0 (pa_cons (pv 0) (pa_cons pe_int pa_nil))) pa_nil)) (pg_name (i := 4) sc_law_built.nd rfl (Or.inl rfl))
  (C8.pss_cut (ps_expr (pe_call G_law_enter (hr.mono (by decide)) (by rfl) T.g_law_enter T.law_enter.kp T.b_law_enter .nil pass0 (pa_cons (pv 2) (pa_cons (pe_ix ix_list (pv 1) (pe_call G_law_draw (hr.mono (by decide)) (by rfl) T.g_law_draw T.law_draw.kp T.b_law_draw .nil pass0 (pa_cons (pv 0) (pa_cons pe_int pa_nil))) (fun _ _ => rfl)) pa_nil))))
  (pss_cons (ps_for PassesOwn.never rfl (pi_range1 (by rfl) T.n_range (pa_cons (pe_call G_law_draw (hr.mono (by decide)) (by rfl) T.g_law_draw T.law_draw.kp T.b_law_draw .nil pass0 (pa_cons (pv 0) (pa_cons pe_int pa_nil))) pa_nil)) (pg_name (i := 5) sc_law_built.nd rfl (Or.inl rfl))
  (pss_cons (ps_set (i := 6) sc_law_built.nd rfl (Or.inl rfl) (pe_call G_law_word (hr.mono (by decide)) (by rfl) T.g_law_word T.law_word.kp T.b_law_word .nil pass0 (pa_cons (pv 0) pa_nil)))
  (pss_one (ps_if (PW.pt (pw_and (pt_cmpR op_notIn_seq (pv 6) (pe_meth0 (pv 2) T.k_Database T.m_Database_outer_records G_Database_outer_records (hr.mono (by decide)) T.b_Database_outer_records .nil pass0) (by rfl)) (pw_and1 (pt_not (pt_truth (pe_prop (pv 2) T.k_Database T.m_Database_is_doomed G_Database_is_doomed (hr.mono (by decide)) T.b_Database_is_doomed .nil pass0 rfl) (by intro _; rfl)))))) (pss_cons (ps_asg (pe_call G_law_draw (hr.mono (by decide)) (by rfl) T.g_law_draw T.law_draw.kp T.b_law_draw .nil pass0 (pa_cons (pv 0) (pa_cons pe_int pa_nil))) (pg_setO (pv 2) (pv 6) T.m_DatabaseU_setitemU T.ns_Database G_DatabaseU_setitemU (hr.mono (by decide)) T.b_DatabaseU_setitemU (fun _ => passL0)))
  (pss_one (ps_expr (pe_bm PySem.F.plainAttrs_list PySem.F.slot_list_append PySem.F.type_list_append mt_append (pv 3) (pa_cons (pv 6) pa_nil))))) pss_nil))))
  (pss_one (ps_if (pt_cmpR op_eq (pe_call G_law_draw (hr.mono (by decide)) (by rfl) T.g_law_draw T.law_draw.kp T.b_law_draw .nil pass0 (pa_cons (pv 0) (pa_cons pe_int pa_nil))) pe_int (nomark _)) (pss_one (ps_expr (pe_meth (pv 2) T.k_Database T.m_Database_doom G_Database_doom (hr.mono (by decide)) (bd_doom T) .nil passL (pa_cons (pe_call G_law_word (hr.mono (by decide)) (by rfl) T.g_law_word T.law_word.kp T.b_law_word .nil pass0 (pa_cons (pv 0) pa_nil)) pa_nil)))) pss_nil)))))
  (pss_one (ps_ret (pe_tup (pa_cons (pv 2) (pa_cons (pv 3) pa_nil))))))))), ?_⟩
    dsimp only [cxOf]
    walk_at "rd"
    intro ml hml
    have W1 : Wd a H0 (upd H ml (.lst modesV)) [] [(pp, o), (ml, .lst modesV)] := W.addC hml lst_ni
    generalize upd H ml (.lst modesV) = H1 at W1 ⊢
    walk_at "rd"
    intro x dx hx hdx nxd
    refine ⟨x, dx, rfl, upd_same, fun H2 L hD el kp mt => ⟨rfl, ?_⟩⟩
    have W2 : Wd a H0 H2 [(L, _)] [(pp, o), (ml, .lst modesV)] := W1.made hx hdx hD kp mt
    walk_at "rd"
    intro q hq
    have W3 : Wd a H0 (upd H2 q (.lst [])) [(L, _)] [(pp, o), (ml, .lst modesV), (q, .lst (usedL ⟨[], [none], [], 0, 0⟩))] := W2.addC hq lst_ni
    generalize upd H2 q (.lst []) = H3 at W3 ⊢
    have hp3 : H3 pp = some o := W3.cl 0 _ rfl
    walk_at "rd"
    intro r1 o1 r10 r11 h1
    have W4 := W3.setC (i := 0) o1 rfl h1.ni
    generalize upd H3 pp o1 = H4 at W4 ⊢
    walk_at "rd"
    refine for_range (fun i σ H' => i ≤ 10 ∧ ∃ L D o' v4 v5 v6, Wd a H0 H' [(L, D)] [(pp, o'), (ml, .lst modesV), (q, .lst (usedL D))] ∧ L.db = x ∧ PoolO o' (c + 1 + 40 * i) ∧ Gd D (4 * i) ∧ D.floor = 0 ∧ σ = [some (.ref pp), some (.ref ml), some (.ref x), some (.ref q), v4, v5, v6]) ?_ ?_ ?_
    · exact ⟨by omega, L, _, o1, _, _, _, W4, el, h1, gd_new, rfl, rfl⟩
    · clear W W1 W2 W3 W4 hp3 hD kp mt
      rintro i σ H5 hi ⟨_, L, D, o5, v4, v5, v6, W5, el, ho5, g5, fl5, rfl⟩
      have hi10 : i < 10 := by omega
      have hp5 : H5 pp = some o5 := W5.cl 0 _ rfl
      have hm5 : H5 ml = some (.lst modesV) := W5.cl 1 _ rfl
      walk_at "rd"
      refine ⟨fun σ H' => ∃ (_ : Unit) (L : Lay) (D : Db) (o' : HO), Wd a H0 H' [(L, D)] [(pp, o'), (ml, .lst modesV), (q, .lst (usedL D))] ∧ L.db = x ∧ PoolO o' (c + 1 + 40 * i + 1) ∧ Gd D (4 * i + 1) ∧ D.floor = 0 ∧ σ = [some (.ref pp), some (.ref ml), some (.ref x), some (.ref q), some (.int (0 + (i : Int))), v5, v6], ?_, ?_⟩
      · walk_at "rd"
        intro r6 o6 r60 r61 h6
        have W6 := W5.setC (i := 0) o6 rfl h6.ni
        have nmp : ml ≠ pp := W5.cc 1 0 _ _ rfl rfl (by decide)
        have hm6 := upd_oth (o := o6) nmp hm5
        generalize upd H5 pp o6 = H6 at W6 hm6 ⊢
        obtain ⟨mo, am, hmo⟩ : ∃ z : Str, atI modesV r6 = some (.str z) ∧ z ∈ modesS := at_str (xs := modesS) r60 r61
        walk_at "rd"
        refine ⟨L, D, .str mo, by rw [el] <;> rfl, mode_thing hmo, W6.db 0 _ rfl, g5.sm (by omega), fun H7 L7 hD7 f7 => ?_⟩
        have W7 : Wd a H0 H7 [(L7, (enterV D (.str mo)).1)] _ := W6.putD (j := 0) rfl hD7 f7
        have g7 := g5.enter (.str mo)
        obtain ⟨e1, e2⟩ := enterV_keep D (.str mo)
        have fin : ∃ (_ : Unit) (L : Lay) (D : Db) (o' : HO), Wd a H0 H7 [(L, D)] [(pp, o'), (ml, .lst modesV), (q, .lst (usedL D))] ∧ L.db = x ∧ PoolO o' (c + 1 + 40 * i + 1) ∧ Gd D (4 * i + 1) ∧ D.floor = 0 ∧ [some (V.ref pp), some (.ref ml), some (.ref x), some (.ref q), some (.int (0 + (i : Int))), v5, v6] = [some (.ref pp), some (.ref ml), some (.ref x), some (.ref q), some (.int (0 + (i : Int))), v5, v6] := by
          refine ⟨(), L7, _, o6, ?_, f7.db.trans el, h6, g7, e2.trans fl5, rfl⟩
          rw [show usedL (enterV D (.str mo)).1 = usedL D by unfold usedL; rw [e1]]
          exact W7
        cases (enterV D (.str mo)).2 with
        | none => exact fin
        | some e => exact fun t ht => fin
      · clear W5 g5 fl5 hp5 hm5 ho5 el
        rintro σ H6 ⟨_, L, D, o6, W6, el, ho6, g6, fl6, rfl⟩
        have hp6 : H6 pp = some o6 := W6.cl 0 _ rfl
        walk_at "rd"
        intro r7 o7 r70 r71 h7
        have W7 := W6.setC (i := 0) o7 rfl h7.ni
        generalize upd H6 pp o7 = H7 at W7 ⊢
        walk_at "rd"
        refine for_range (fun j σ H' => j ≤ 2 ∧ ∃ L D o' v5 v6, Wd a H0 H' [(L, D)] [(pp, o'), (ml, .lst modesV), (q, .lst (usedL D))] ∧ L.db = x ∧ PoolO o' (c + 1 + 40 * i + 2 + 10 * j) ∧ Gd D (4 * i + 1 + j) ∧ D.floor = 0 ∧ σ = [some (.ref pp), some (.ref ml), some (.ref x), some (.ref q), some (.int (0 + (i : Int))), v5, v6]) ?_ ?_ ?_
        · exact ⟨by omega, L, D, o7, _, _, W7, el, h7, g6, fl6, rfl⟩
        · clear W6 W7 hp6 ho6 g6 fl6 el
          rintro j σ H8 hj ⟨_, L, D, o8, v5, v6, W8, el, ho8, g8, fl8, rfl⟩
          have hj2 : j < 2 := by omega
          have hp8 : H8 pp = some o8 := W8.cl 0 _ rfl
          walk_at "rd"
          intro z9 o9 H9 hz9 h9 hp9 k9
          have W9 := W8.putC (i := 0) rfl k9 hp9 h9.ni
          have hx9 := (W9.db 0 _ rfl).db
          rw [el] at hx9
          walk_at "rd"
          refine ⟨L, D, by rw [el] <;> rfl, W9.db 0 _ rfl, g8.sm (by omega), fun H10 q10 s10 hq10 _ => ?_⟩
          have W10 := W9.keep s10
          walk_at "rd"
          refine ⟨flat_strs, ?_⟩
          rw [show (if true = true then !inV (V.str z9) ((outerL D).map V.str) else inV (V.str z9) ((outerL D).map V.str)) = !inV (V.str z9) ((outerL D).map V.str) from rfl, inV_strs]
          cases b1 : decide (z9 ∈ outerL D) with
          | true =>
            refine ⟨_, rfl, ?_⟩
            refine iteF ?_
            exact ⟨hj2, L, D, o9, _, _, W10, el, h9.mono (by omega), g8.up (by omega), fl8, rfl⟩
          | false =>
            refine ⟨_, rfl, ?_⟩
            refine iteT ?_
            have hx10 := (W10.db 0 _ rfl).db
            rw [el] at hx10
            walk_at "rd"
            refine ⟨L, D, by rw [el] <;> rfl, W10.db 0 _ rfl, g8.sm (by omega), ?_⟩
            refine ⟨_, rfl, ?_⟩
            dsimp only
            cases b2 : (reasonD D).isSome with
            | true =>
              refine iteF ?_
              exact ⟨hj2, L, D, o9, _, _, W10, el, h9.mono (by omega), g8.up (by omega), fl8, rfl⟩
            | false =>
              refine iteT ?_
              have hp10 : H10 pp = some o9 := W10.cl 0 _ rfl
              walk_at "rd"
              intro r11 o11 r110 r111 h11
              have W11 := W10.setC (i := 0) o11 rfl h11.ni
              generalize upd H10 pp o11 = H11 at W11 ⊢
              have hx11 := (W11.db 0 _ rfl).db
              rw [el] at hx11
              walk_at "rd"
              refine ⟨L, D, .str z9, .int r11, by rw [el] <;> rfl, word_thing hz9, W11.db 0 _ rfl, g8.sm (by omega), fun H12 L12 hD12 f12 => ?_⟩
              rw [setV_word hz9] at hD12 ⊢
              obtain ⟨r, er, ern⟩ := writeD_ok (v := .int r11) g8 (of_decide_eq_false b1) b2
              have g12 := g8.write (i := r11) hz9 (by omega)
              rw [er] at hD12 g12 ⊢
              have W12 := W11.putD (j := 0) rfl hD12 f12
              have hq12 : H12 q = some (.lst (usedL D)) := W12.cl 2 _ rfl
              have lu := used_len g8
              have lq : (usedL D).length < sizeLine := by rw [sizeLine_eq]; omega
              walk_at "rd"
              have W13 := W12.setC (i := 2) (.lst (usedL D ++ [.str z9])) rfl lst_ni
              refine ⟨L12, addD D r, o11, _, _, ?_, f12.db.trans el, h11.mono (by omega), g12, fl8, rfl⟩
              rw [used_add, ern]
              exact W13
        · rintro σ H8 ⟨_, L, D, o8, v5, v6, W8, el, ho8, g8, fl8, rfl⟩
          have hp8 : H8 pp = some o8 := W8.cl 0 _ rfl
          walk_at "rd"
          intro r9 o9 r90 r91 h9
          have W9 := W8.setC (i := 0) o9 rfl h9.ni
          generalize upd H8 pp o9 = H9 at W9 ⊢
          have hp9 : H9 pp = some o9 := W9.cl 0 _ rfl
          have hx9 := (W9.db 0 _ rfl).db
          rw [el] at hx9
          walk_at "rd"
          refine ite2 (fun c9 => ?_) (fun c9 => ?_)
          · walk_at "rd"
            intro z10 o10 H10 hz10 h10 hp10 k10
            have W10 := W9.putC (i := 0) rfl k10 hp10 h10.ni
            walk_at "rd"
            refine ⟨L, D, .str z10, by rw [el] <;> rfl, word_thing hz10, W10.db 0 _ rfl, fun H11 L11 hD11 f11 => ?_⟩
            rw [doomV_word hz10] at hD11 ⊢
            have W11 := W10.putD (j := 0) rfl hD11 f11
            obtain ⟨e1, e2⟩ := doomD_keep D z10
            refine ⟨hi10, L11, _, o10, _, _, _, ?_, f11.db.trans el, h10.mono (by omega), (g8.doom hz10).up (by omega), e2.trans fl8, rfl⟩
            rw [show usedL (doomD D z10) = usedL D by unfold usedL; rw [e1]]
            exact W11
          · exact ⟨hi10, L, D, o9, _, _, _, W9, el, h9.mono (by omega), g8.up (by omega), fl8, rfl⟩
    · rintro σ H5 ⟨_, L, D, o5, v4, v5, v6, W5, el, ho5, g5, fl5, rfl⟩
      walk_at "rd"
      intro t ht
      have W6 := W5.keep ((Same.refl H5).new (o := .tup [.ref x, .ref q]) ht)
      exact k _ t q ml L D o5 W6 (by rw [el]; exact upd_same) (ho5.mono (by omega)) (g5.up (by omega)) fl5
/-! ### k06: a thing that is neither a word nor a mode -/
theorem cutS_asc {z : Str} (h : asc z) (lo hi : Option Int) : asc (cutS z lo hi) := by
  intro c hc
  have : c ∈ (z.cps.toList.drop (HT.sIx z.length 0 lo)).take (HT.sIx z.length z.length hi - HT.sIx z.length 0 lo) := hc
  exact h c (List.mem_of_mem_drop (List.mem_of_mem_take this))
theorem app_asc {x y : Str} (h : asc x) (h' : asc y) : asc (x ++ y) := by
  intro c hc
  have : c ∈ (x.cps ++ y.cps).toList := hc
  rw [Array.toList_append, List.mem_append] at this
  exact this.elim (h c) (h' c)
def odds6 : Str := "A_ 0'"
theorem odds6_at {r : Int} (h0 : 0 ≤ r) (h1 : r < 5) : ∃ c, atI odds6.cps.toList r = some c ∧ c < 97 := by
  have h : (List.range 5).all (fun n => match odds6.cps.toList[n]? with | some c => decide (c < 97) | none => false) = true := by decide +kernel
  have h2 := List.all_eq_true.mp h r.toNat (List.mem_range.mpr (by omega))
  cases e : odds6.cps.toList[r.toNat]? with
  | none => rw [e] at h2; cases h2
  | some c =>
    rw [e] at h2
    have q := atI_nat e
    rw [show ((r.toNat : Nat) : Int) = r by omega] at q
    exact ⟨c, q, of_decide_eq_true h2⟩
theorem mode_word {z : Str} (h : wordS z = false) : modeB (.str z) = false := by
  cases e : modeB (.str z) with
  | false => rfl
  | true =>
    have m : inV (.str z) (modesS.map V.str) = true := by
      unfold modeB at e
      rw [Bool.and_eq_true] at e
      exact e.2
    rw [inV_strs, decide_eq_true_eq] at m
    have : ∀ x ∈ modesS, wordS x = true := by decide +kernel
    rw [this z m] at h
    cases h
theorem kp_none {P : Addr → Prop} {H H' : Hp} {b : Addr} (k : Kp P H H') (n : ¬ P b) (h : H' b = none) : H b = none := by
  cases e : H b with
  | none => rfl
  | some u => rw [k b u e n] at h; cases h
/-- such a thing; H: the state ahead of its making -/
inductive Odd6 (H H' : Hp) : V → Prop
  | str (z : Str) (h : wordS z = false) (l : z.length ≤ 1000) (ha : asc z) : Odd6 H H' (.str z)
  | non : Odd6 H H' .non
  | int (i : Int) : Odd6 H H' (.int i)
  | bl (b : Bool) : Odd6 H H' (.bl b)
  | tup (p : Addr) (n : H p = none) (e : H' p = some (.tup [.str "join"])) : Odd6 H H' (.ref p)
  | lst (p : Addr) (n : H p = none) (e : H' p = some (.lst [.str "join"])) : Odd6 H H' (.ref p)
def spWr6 (a : Ad) : Sp := fun vs H Q _ => ∃ pp o c, vs = [.ref pp] ∧ H pp = some o ∧ PoolO o c ∧ c < 2 ^ 30 ∧ ∀ v H' o', Odd6 H H' v → H' pp = some o' → PoolO o' (c + 30) → Kp (fun b => b = pp) H H' → Q v H'
theorem ok_law_wrong (T : Txt K mg a d) : FnOk P w K mg base CX0 3 a.law_wrong d.law_wrong ["_law_pool_here"] (spWr6 a) := by
  have G_law_draw : FnOk P w K mg base CX0 1 a.law_draw d.law_draw ["_law_pool_here", "_law_many"] spDraw := ok_law_draw T
  have G_law_word : FnOk P w K mg base CX0 2 a.law_word d.law_word ["_law_pool_here"] spWord := ok_law_word T
  refine T.law_wrong.ok sc_law_wrong (fun vs H Q E h => ?_) (fun cdv A outer s H vs Q E hr h => ?_)
  · obtain ⟨pp, o, c, rfl, _⟩ := h
    rfl
  · obtain ⟨pp, o, c, rfl, hp, ho, hc, k⟩ := h
    refine ⟨_, (pss_cons (ps_set (i := 1) sc_law_wrong.nd rfl (Or.inl rfl) (pe_call G_law_word (hr.mono (by decide)) (by rfl) T.g_law_word T.law_word.kp T.b_law_word .nil pass0 (pa_cons (pv 0) pa_nil)))
  (pss_cons (ps_set (i := 2) sc_law_wrong.nd rfl (Or.inl rfl) (pe_call G_law_draw (hr.mono (by decide)) (by rfl) T.g_law_draw T.law_draw.kp T.b_law_draw .nil pass0 (pa_cons (pv 0) (pa_cons (pe_callB call_len_str (by rfl) T.n_len PySem.boot_len (pa_cons (pv 1) pa_nil)) pa_nil))))
  (pss_cons (ps_set (i := 3) sc_law_wrong.nd rfl (Or.inl rfl) (pe_op op_add_str (pe_op op_add_str (pe_slice sl_str (pv 1) po_none (po_some (pv 2))) (pe_ix ix_str pe_str (pe_call G_law_draw (hr.mono (by decide)) (by rfl) T.g_law_draw T.law_draw.kp T.b_law_draw .nil pass0 (pa_cons (pv 0) (pa_cons pe_int pa_nil))) (fun _ _ => rfl))) (pe_slice sl_str (pv 1) (po_some (pe_op op_add (pv 2) pe_int)) po_none)))
  (pss_one (ps_ret (pe_ix ix_list (pe_lst (pa_cons (pv 3) (pa_cons pe_str (pa_cons (pe_op op_add_str (pv 1) pe_str) (pa_cons pe_non (pa_cons pe_int (pa_cons pe_bl (pa_cons (pe_tup (pa_cons pe_str pa_nil)) (pa_cons (pe_lst (pa_cons pe_str pa_nil)) pa_nil))))))))) (pe_call G_law_draw (hr.mono (by decide)) (by rfl) T.g_law_draw T.law_draw.kp T.b_law_draw .nil pass0 (pa_cons (pv 0) (pa_cons pe_int pa_nil))) (fun _ _ => rfl))))))), ?_⟩
    dsimp only [cxOf]
    walk_at "rd"
    intro z1 o1 H1 hz1 h1 hp1 k1
    have l1 := hz1.lo
    have l2 := hz1.hi
    rw [len_toList] at l1 l2
    have lz : z1.length ≤ sizeLine := by rw [sizeLine_eq]; omega
    walk_at "rd"
    intro r2 o2 r20 r21 h2
    have k2 := k1.set1 (o := o2)
    have hp2 := upd_same (H := H1) (a := pp) (o := o2)
    generalize upd H1 pp o2 = H2 at k2 hp2 ⊢
    walk_at "rd"
    intro r3 o3 r30 r31 h3
    have k3 := k2.set1 (o := o3)
    have hp3 := upd_same (H := H2) (a := pp) (o := o3)
    generalize upd H2 pp o3 = H3 at k3 hp3 ⊢
    obtain ⟨n2, rfl⟩ := Int.eq_ofNat_of_zero_le r20
    obtain ⟨cc, g1, g2⟩ := odds6_at r30 r31
    have l3 := cutS_length z1 none (some (n2 : Int))
    have l4 := cutS_length z1 (some ((n2 : Int) + 1)) none
    have a3 := cutS_asc hz1.asc none (some (n2 : Int))
    have a4 := cutS_asc hz1.asc (some ((n2 : Int) + 1)) none
    have g1' : atI (Str.ofString "A_ 0'").cps.toList r3 = some cc := g1
    walk_at "rd"
    generalize cutS z1 none (some (n2 : Int)) = x1 at l3 a3 ⊢
    refine ⟨by show x1.length + 1 ≤ _; rw [sizeLine_eq]; omega, ?_⟩
    walk_at "rd"
    generalize cutS z1 (some ((n2 : Int) + 1)) none = x2 at l4 a4 ⊢
    refine ⟨by rw [Str.length_append, show (⟨#[cc]⟩ : Str).length = 1 from rfl, sizeLine_eq]; omega, ?_⟩
    have w5 : wordS (x1 ++ ⟨#[cc]⟩ ++ x2) = false := by
      cases e : wordS (x1 ++ ⟨#[cc]⟩ ++ x2) with
      | false => rfl
      | true =>
        have := (wordS_of e).al cc (by
          show cc ∈ ((x1.cps ++ #[cc]) ++ x2.cps).toList
          simp)
        omega
    have l5 : (x1 ++ ⟨#[cc]⟩ ++ x2).length ≤ 1000 := by rw [Str.length_append, Str.length_append, show (⟨#[cc]⟩ : Str).length = 1 from rfl]; omega
    have a5 : asc (x1 ++ ⟨#[cc]⟩ ++ x2) := app_asc (app_asc a3 fun c hc => by
      have hc : c ∈ [cc] := hc
      rw [List.mem_singleton.mp hc]; omega) a4
    generalize (x1 ++ ⟨#[cc]⟩ ++ x2) = x5 at w5 l5 a5 ⊢
    have l8 : (Str.ofString "abcdefgh").length = 8 := by decide +kernel
    have w6 : wordS (z1 ++ Str.ofString "abcdefgh") = false := by
      cases e : wordS (z1 ++ Str.ofString "abcdefgh") with
      | false => rfl
      | true =>
        have := (wordS_of e).hi
        rw [len_toList, Str.length_append, l8] at this
        omega
    have l6 : (z1 ++ Str.ofString "abcdefgh").length ≤ 1000 := by rw [Str.length_append, l8]; omega
    have a6 : asc (z1 ++ Str.ofString "abcdefgh") := app_asc hz1.asc (by
      have : ∀ c ∈ (Str.ofString "abcdefgh").cps.toList, c < 128 := by decide +kernel
      exact this)
    walk_at "rd"
    refine ⟨by rw [l8, sizeLine_eq]; omega, ?_⟩
    generalize (z1 ++ Str.ofString "abcdefgh") = x6 at w6 l6 a6 ⊢
    walk_at "rd"
    intro q1 hq1
    have k4 := k3.new (o := .tup [.str "join"]) hq1
    have hp4 := upd_old (o := .tup [.str "join"]) hp3 hq1
    have t4 := upd_same (H := H3) (a := q1) (o := .tup [.str "join"])
    have n1 : H q1 = none := kp_none k3 (fun e => by rw [e, hp3] at hq1; cases hq1) hq1
    have np1 : q1 ≠ pp := Ne.symm (ne_of_none hp3 hq1)
    generalize upd H3 q1 (.tup [.str "join"]) = H4 at k4 hp4 t4 ⊢
    walk_at "rd"
    intro q2 hq2
    have k5 := k4.new (o := .lst [.str "join"]) hq2
    have hp5 := upd_old (o := .lst [.str "join"]) hp4 hq2
    have t5 := upd_old (o := .lst [.str "join"]) t4 hq2
    have u5 := upd_same (H := H4) (a := q2) (o := .lst [.str "join"])
    have n2 : H q2 = none := kp_none k4 (fun e => by rw [e, hp4] at hq2; cases hq2) hq2
    have np2 : q2 ≠ pp := Ne.symm (ne_of_none hp4 hq2)
    generalize upd H4 q2 (.lst [.str "join"]) = H5 at k5 hp5 t5 u5 ⊢
    walk_at "rd"
    intro q3 hq3
    have k6 := k5.new (o := .lst [.str x5, .str "", .str x6, .non, .int 7, .bl true, .ref q1, .ref q2]) hq3
    have hp6 := upd_old (o := .lst [.str x5, .str "", .str x6, .non, .int 7, .bl true, .ref q1, .ref q2]) hp5 hq3
    have t6 := upd_old (o := .lst [.str x5, .str "", .str x6, .non, .int 7, .bl true, .ref q1, .ref q2]) t5 hq3
    have u6 := upd_old (o := .lst [.str x5, .str "", .str x6, .non, .int 7, .bl true, .ref q1, .ref q2]) u5 hq3
    have v6 := upd_same (H := H5) (a := q3) (o := .lst [.str x5, .str "", .str x6, .non, .int 7, .bl true, .ref q1, .ref q2])
    have np3 : q3 ≠ pp := Ne.symm (ne_of_none hp5 hq3)
    generalize upd H5 q3 (.lst [.str x5, .str "", .str x6, .non, .int 7, .bl true, .ref q1, .ref q2]) = H6 at k6 hp6 t6 u6 v6 ⊢
    walk_at "rd"
    intro r7 o7 r70 r71 h7
    have k7 := k6.set1 (o := o7)
    have hp7 := upd_same (H := H6) (a := pp) (o := o7)
    have t7 := upd_oth (o := o7) np1 t6
    have u7 := upd_oth (o := o7) np2 u6
    have v7 := upd_oth (o := o7) np3 v6
    generalize upd H6 pp o7 = H7 at k7 hp7 t7 u7 v7 ⊢
    clear h1 h2 h3 k6 k5 k4 k3 k2 k1
    have h7' := h7.mono (show _ ≤ c + 30 by omega)
    have fin : ∀ v, Odd6 H H7 v → Q v H7 := fun v hv => k v H7 o7 hv hp7 h7' k7
    have hr7 : r7 = 0 ∨ r7 = 1 ∨ r7 = 2 ∨ r7 = 3 ∨ r7 = 4 ∨ r7 = 5 ∨ r7 = 6 ∨ r7 = 7 := by omega
    rcases hr7 with rfl | rfl | rfl | rfl | rfl | rfl | rfl | rfl
    · refine ⟨q3, _, _, _, rfl, rfl, SqL.of v7, rfl, fin _ (.str _ w5 l5 a5)⟩
    · refine ⟨q3, _, _, _, rfl, rfl, SqL.of v7, rfl, fin _ (.str _ (by decide +kernel) (by decide +kernel) (fun c hc => nomatch hc))⟩
    · refine ⟨q3, _, _, _, rfl, rfl, SqL.of v7, rfl, fin _ (.str _ w6 l6 a6)⟩
    · refine ⟨q3, _, _, _, rfl, rfl, SqL.of v7, rfl, fin _ .non⟩
    · refine ⟨q3, _, _, _, rfl, rfl, SqL.of v7, rfl, fin _ (.int _)⟩
    · refine ⟨q3, _, _, _, rfl, rfl, SqL.of v7, rfl, fin _ (.bl _)⟩
    · refine ⟨q3, _, _, _, rfl, rfl, SqL.of v7, rfl, fin _ (.tup _ n1 t7)⟩
    · refine ⟨q3, _, _, _, rfl, rfl, SqL.of v7, rfl, fin _ (.lst _ n2 u7)⟩
/-! ### k06: the law -/
theorem Wd.addY {a : Ad} {H0 H H' : Hp} {ds : List (Lay × Db)} {cs cs' : List (Addr × HO)} {y : Addr} {o : HO} (h : Wd a H0 H ds cs) (h' : Wd a H0 H' ds cs') (hc : ∀ (i : Nat) (z : Addr × HO), cs'[i]? = some z → ∃ u, H z.1 = some u) (hy : H y = none) (hy' : H' y = some o) (ni : ∀ C dx fs, o ≠ .ins C dx fs) : Wd a H0 H' ds (cs' ++ [(y, o)]) := by
  refine ⟨h'.same, h'.db, h'.df, h'.dd, ?_, ?_, ?_, ?_, ?_⟩
  · intro i z e
    rcases get_app e with ⟨_, rfl⟩ | ⟨_, e⟩
    · exact hy'
    · exact h'.cl i z e
  · intro i z e
    rcases get_app e with ⟨_, rfl⟩ | ⟨_, e⟩
    · exact ni
    · exact h'.ci i z e
  · intro i z e
    rcases get_app e with ⟨_, rfl⟩ | ⟨_, e⟩
    · exact h.same.free hy
    · exact h'.cf i z e
  · intro i j z1 z2 e1 e2 n
    rcases get_app e1 with ⟨q1, rfl⟩ | ⟨_, e1⟩ <;> rcases get_app e2 with ⟨q2, rfl⟩ | ⟨_, e2⟩
    · exact absurd (q1.trans q2.symm) n
    · obtain ⟨u, hu⟩ := hc j z2 e2
      exact Ne.symm (ne_of_none hu hy)
    · obtain ⟨u, hu⟩ := hc i z1 e1
      exact ne_of_none hu hy
    · exact h'.cc i j z1 z2 e1 e2 n
  · intro i j x z e1 e2
    rcases get_app e2 with ⟨q2, rfl⟩ | ⟨_, e2⟩
    · exact (h.db i x e1).fresh hy
    · exact h'.dc i j x z e1 e2
theorem Wd.re {a : Ad} {H0 H : Hp} {ds : List (Lay × Db)} {cs cs' : List (Addr × HO)} (f : Nat → Nat) (h : Wd a H0 H ds cs) (hf : ∀ (i : Nat) (y : Addr × HO), cs'[i]? = some y → cs[f i]? = some y) (inj : ∀ i j, f i = f j → i = j) : Wd a H0 H ds cs' :=
  ⟨h.same, h.db, h.df, h.dd, fun i y e => h.cl _ y (hf i y e), fun i y e => h.ci _ y (hf i y e), fun i y e => h.cf _ y (hf i y e), fun i j y z e1 e2 n => h.cc _ _ y z (hf i y e1) (hf j z e2) (fun q => n (inj i j q)), fun i j x y e1 e2 => h.dc i _ x y e1 (hf j y e2)⟩
/-- such a thing, and its cells -/
structure OddC (X : List (Addr × HO)) (v : V) (dv : PyData) : Prop where
  wb : wordB v = false
  mb : modeB v = false
  th : ∀ {H : Hp}, (∀ (i : Nat) (y : Addr × HO), X[i]? = some y → H y.1 = some y.2) → Thing H v
  dp : ∀ {K : PySem.W.Frag} {H : Hp}, (∀ (i : Nat) (y : Addr × HO), X[i]? = some y → H y.1 = some y.2) → Dp K H v dv
  sh : ∀ s : Str, asc s → SeqAt.shaped (.tuple [.str s, dv, .bool true]) = true
  ln : X = [] ∨ ∃ y, X = [y]
theorem shp3 {s : Str} (h : asc s) {dv : PyData} (h2 : PyData.canLay0 dv = true) (h3 : dv.depth ≤ 5) : SeqAt.shaped (.tuple [.str s, dv, .bool true]) = true := by
  show (PyData.strOk s && (PyData.canLay0 dv && (true && true)) && decide (max (0 : Nat) (max dv.depth (max 0 0)) + 1 ≤ 64)) = true
  rw [asc_ok h, h2, decide_eq_true (by omega)]; rfl
theorem odd_of {a : Ad} {H0 H H' : Hp} {ds : List (Lay × Db)} {cs cs' : List (Addr × HO)} {v : V} (O : Odd6 H H' v) (h : Wd a H0 H ds cs) (h' : Wd a H0 H' ds cs') (hc : ∀ (i : Nat) (z : Addr × HO), cs'[i]? = some z → ∃ u, H z.1 = some u) : ∃ X dv, Wd a H0 H' ds (cs' ++ X) ∧ OddC X v dv := by
  cases O with
  | str z hw l ha => exact ⟨[], .str z, by rw [List.append_nil]; exact h', ⟨hw, mode_word hw, fun _ => .str z l ha, fun _ => .str z, fun s hs => shp3 hs (asc_ok ha) (Nat.zero_le _), .inl rfl⟩⟩
  | non => exact ⟨[], .none, by rw [List.append_nil]; exact h', ⟨rfl, rfl, fun _ => .non, fun _ => .non, fun s hs => shp3 hs rfl (Nat.zero_le _), .inl rfl⟩⟩
  | int i => exact ⟨[], .int i, by rw [List.append_nil]; exact h', ⟨rfl, rfl, fun _ => .int i, fun _ => .int i, fun s hs => shp3 hs rfl (Nat.zero_le _), .inl rfl⟩⟩
  | bl b => exact ⟨[], .bool b, by rw [List.append_nil]; exact h', ⟨rfl, rfl, fun _ => .bl b, fun _ => .bl b, fun s hs => shp3 hs rfl (Nat.zero_le _), .inl rfl⟩⟩
  | tup p n e => exact ⟨[(p, .tup [.str "join"])], .tuple [.str "join"], h.addY h' hc n e tup_ni, ⟨rfl, rfl, fun g => .tup (g 0 _ rfl), fun g => .tup (SqT.of (g 0 _ rfl)) (.cons (.str _) .nil), fun s hs => shp3 hs (by decide +kernel) (by decide), .inr ⟨_, rfl⟩⟩⟩
  | lst p n e => exact ⟨[(p, .lst [.str "join"])], .list [.str "join"], h.addY h' hc n e lst_ni, ⟨rfl, rfl, fun g => .lst (g 0 _ rfl), fun g => .lst (SqL.of (g 0 _ rfl)) (.cons (.str _) .nil), fun s hs => shp3 hs (by decide +kernel) (by decide), .inr ⟨_, rfl⟩⟩⟩
theorem eq3 {K : PySem.W.Frag} {H : Hp} {t1 t2 : Addr} {s : Str} {v : V} {dv : PyData} {Q : VK} (h1 : H t1 = some (.tup [.str s, v, .bl true])) (h2 : H t2 = some (.tup [.str s, v, .bl true])) (hd : Dp K H v dv) (sh : SeqAt.shaped (.tuple [.str s, dv, .bool true]) = true) (q : Q (.bl true) H) : rEqD K (.ref t1) (.ref t2) H Q := by
  refine ⟨_, _, .tup (SqT.of h1) (.cons (.str _) (.cons hd (.cons (.bl _) .nil))), .tup (SqT.of h2) (.cons (.str _) (.cons hd (.cons (.bl _) .nil))), sh, sh, ?_⟩
  rw [SeqAt.eqv_refl _ (SeqAt.canLay_of_shaped sh)]
  exact q
theorem leave_odd0 {D : Db} {v : V} (h : D.entered.length = 0) (hf : D.floor = 0) (hw : wordB v = false) : leaveV D v true = (D, some .noblock) := by
  have c : (D.entered.length : Int) ≤ D.floor := by rw [h, hf]; exact Int.le_refl _
  unfold leaveV leaveD
  cases v with
  | str z =>
    dsimp only
    rw [if_neg (by rw [show wordS z = false from hw]; simp), if_pos c]
  | _ => exact if_pos c
theorem leave_odd1 {D : Db} {v : V} (h : D.entered.length ≠ 0) (hf : D.floor = 0) (hw : wordB v = false) (hv : v ≠ .non) : leaveV D v true = (D, some (.badword v)) := by
  have c : ¬ (D.entered.length : Int) ≤ D.floor := by rw [hf]; omega
  unfold leaveV
  cases v with
  | str z =>
    dsimp only
    rw [if_neg (by rw [show wordS z = false from hw]; simp), if_neg c]
  | non => exact absurd rfl hv
  | _ => exact if_neg c
theorem enter_odd {D : Db} {v : V} (h : modeB v = false) : enterV D v = (D, some (.badmode v)) := if_neg (by rw [h]; simp)
theorem enter_must {D : Db} {m : Nat} (g : Gd D m) (h : openD D = false) : enterV D (.str "must") = (D, some (.missing "must")) := by
  rw [enterV_mode (by simp)]
  unfold enterD
  rcases g.top with ⟨st, e⟩ | ⟨k, y, rs, st, e⟩
  · rw [e]; rfl
  · unfold openD at h
    rw [e] at h; cases h
theorem enter_never {D : Db} {m : Nat} (g : Gd D m) (h : openD D = true) : enterV D (.str "never") = (D, some (.present "never")) ∧ enterV D (.str "alone") = (D, some (.present "alone")) := by
  rw [enterV_mode (by simp), enterV_mode (by simp)]
  unfold enterD
  rcases g.top with ⟨st, e⟩ | ⟨k, y, rs, st, e⟩
  · unfold openD at h
    rw [e] at h; cases h
  · rw [e]; exact ⟨rfl, rfl⟩
theorem enter_inner {D : Db} {m : Nat} {z : Str} (g : Gd D m) (h : reasonD D = some z) : enterV D (.str "inner") = (D, some (.doomed z)) := by
  rw [enterV_mode (by simp)]
  unfold enterD
  unfold reasonD at h
  rcases g.top with ⟨st, e⟩ | ⟨k, y, rs, st, e⟩
  · rw [e] at h; cases h
  · rw [e] at h ⊢
    dsimp only at h
    subst h
    rfl
theorem found_none {D : Db} {z : Str} (h : ¬ V.str z ∈ usedL D) : foundL D z = [] := by
  unfold foundL
  rw [List.filter_eq_nil_iff]
  intro r hr
  unfold hitR
  have : ¬ r.rcd = z := fun e => h (List.mem_map.mpr ⟨r, hr, by rw [e]⟩)
  rw [decide_eq_false this]; simp
theorem get_fresh {D : Db} {z : Str} (hz : IsWord z) (h : ¬ V.str z ∈ usedL D) : getV D (.str z) = .inr (.norecord z) ∧ hasV D (.str z) = false := by
  constructor
  · show (if wordS z = true then _ else _) = _
    rw [if_pos hz.ok, found_none h]; rfl
  · show (wordS z && !(foundL D z).isEmpty) = false
    rw [found_none h]; simp
theorem get_odd {D : Db} {v : V} (h : wordB v = false) : getV D v = .inr (.badword v) := by
  cases v with
  | str z => exact if_neg (by rw [show wordS z = false from h]; simp)
  | _ => rfl
def M6 (a : Ad) (H0 H : Hp) (x pp q dq : Addr) (X : List (Addr × HO)) (D : Db) (c n : Nat) : Prop := ∃ (L : Lay) (o : HO) (m : Nat), Wd a H0 H [(L, D)] ([(pp, o), (q, .lst (usedL D)), (dq, .lst (List.replicate m (V.bl true)))] ++ X) ∧ L.db = x ∧ PoolO o c ∧ m ≤ n
theorem rep_snoc {m : Nat} {v : V} : List.replicate m v ++ [v] = List.replicate (m + 1) v := by rw [List.replicate_succ']
def spLaw (K : PySem.W.Frag) : Sp := fun vs H Q _ => ∃ (p : Addr) (ns : List Int), vs = [.ref p] ∧ SqL K H p (ns.map V.int) ∧ ns.length ≤ 63 ∧ ∀ H', Q (.bl true) H'
theorem ok_law (T : Txt K mg a d) : FnG P w K mg base CX0 9 a.law d.law ["_law_script"] (spLaw K) := by
  have G_law_pool : FnOk P w K mg base CX0 1 a.law_pool d.law_pool ["_law_script", "_law_at"] (spPool K) := ok_law_pool T
  have G_law_draw : FnOk P w K mg base CX0 1 a.law_draw d.law_draw ["_law_pool_here", "_law_many"] spDraw := ok_law_draw T
  have G_law_word : FnOk P w K mg base CX0 2 a.law_word d.law_word ["_law_pool_here"] spWord := ok_law_word T
  have G_law_built : FnOk P w K mg base CX0 7 a.law_built d.law_built ["_law_pool_here"] (spBu6 a) := ok_law_built T
  have G_law_wrong : FnOk P w K mg base CX0 3 a.law_wrong d.law_wrong ["_law_pool_here"] (spWr6 a) := ok_law_wrong T
  have G_law_enter : FnOk P w K mg base CX0 6 a.law_enter d.law_enter ["_law_db", "_law_mode"] (spEn6 a) := ok_law_enter T
  have G_law_other : FnOk P w K mg base CX0 6 a.law_other d.law_other ["_law_db", "_law_sort", "_law_thing"] (spOt6 a) := ok_law_other T
  have G_law_seen : FnG P w K mg base CX0 5 a.law_seen d.law_seen ["_law_db"] (spSeen6 a) := ok_law_seen T
  have G_Database_is_open : FnOk P w K mg base CX0 1 a.Database_is_open d.Database_is_open ["self"] (spProp a fun D => .bl (openD D)) := ok_Database_is_open T
  have G_Database_is_doomed : FnOk P w K mg base CX0 1 a.Database_is_doomed d.Database_is_doomed ["self"] (spProp a fun D => .bl (reasonD D).isSome) := ok_Database_is_doomed T
  have G_Database_reason : FnOk P w K mg base CX0 1 a.Database_reason d.Database_reason ["self"] (spProp a fun D => oV (reasonD D)) := ok_Database_reason T
  have G_Database_depth : FnOk P w K mg base CX0 1 a.Database_depth d.Database_depth ["self"] (spProp a fun D => .int (D.entered.length : Int)) := ok_Database_depth T
  have G_DatabaseU_containsU : FnOk P w K mg base CX0 2 a.DatabaseU_containsU d.DatabaseU_containsU ["self", "record"] (spHas a) := ok_DatabaseU_containsU T
  have as1 : asc "badmode" ∧ asc "missing" ∧ asc "present" ∧ asc "doomed" ∧ asc "badword" ∧ asc "norecord" ∧ asc "noblock" ∧ asc "must" ∧ asc "never" ∧ asc "alone" := by
    have hz : ∀ z : Str, (z.cps.toList.all fun c => decide (c < 128)) = true → Ic.asc z := fun z h c hc => of_decide_eq_true (List.all_eq_true.mp h c hc)
    exact ⟨hz _ (by decide +kernel), hz _ (by decide +kernel), hz _ (by decide +kernel), hz _ (by decide +kernel), hz _ (by decide +kernel), hz _ (by decide +kernel), hz _ (by decide +kernel), hz _ (by decide +kernel), hz _ (by decide +kernel), hz _ (by decide +kernel)⟩
  obtain ⟨a1, a2, a3, a4, a5, a6, a7, a8, a9, a10⟩ := as1
  refine okG T.law sc_law (fun vs H Q E h => ?_) (fun cdv A outer s H vs Q E hr hgd h => ?_)
  · obtain ⟨p, ns, rfl, _⟩ := h
    rfl
  · obtain ⟨sa, ns, rfl, hS, hl, k⟩ := h
    refine ⟨_, (pss_cons (ps_for PassesOwn.never rfl (pi_range1 (by rfl) T.n_range (pa_cons (pe_callB (call_max2 rfl) (by rfl) T.n_max (by decide +kernel) (pa_cons pe_int (pa_cons (pe_callB (call_min2 rfl) (by rfl) T.n_min (by decide +kernel) (pa_cons pe_int (pa_cons (pe_callB call_len_seq (by rfl) T.n_len PySem.boot_len (pa_cons (pv 0) pa_nil)) pa_nil))) pa_nil))) pa_nil)) (pg_name (i := 1) sc_law.nd rfl (Or.inl rfl))
  (pss_cons (ps_set (i := 2) sc_law.nd rfl (Or.inl rfl) (pe_call G_law_pool (hr.mono (by decide)) (by rfl) T.g_law_pool T.law_pool.kp T.b_law_pool .nil pass0 (pa_cons (pv 0) (pa_cons (pv 1) pa_nil))))
  (pss_cons (ps_asg (pe_call G_law_built (hr.mono (by decide)) (by rfl) T.g_law_built T.law_built.kp T.b_law_built .nil pass0 (pa_cons (pv 2) pa_nil)) (pg_tup rfl (pgs_cons (pg_name (i := 3) sc_law.nd rfl (Or.inl rfl)) (pgs_cons (pg_name (i := 4) sc_law.nd rfl (Or.inl rfl)) pgs_nil))))
  (pss_cons (ps_set (i := 5) sc_law.nd rfl (Or.inl rfl) (pe_callG G_law_seen (hr.mono (by decide)) hgd (by rfl) T.g_law_seen T.law_seen.kp T.b_law_seen .nil pass0 (pa_cons (pv 3) pa_nil)))
  (pss_cons (ps_set (i := 6) sc_law.nd rfl (Or.inl rfl) (pe_call G_law_wrong (hr.mono (by decide)) (by rfl) T.g_law_wrong T.law_wrong.kp T.b_law_wrong .nil pass0 (pa_cons (pv 2) pa_nil)))
  (pss_cons (ps_set (i := 7) sc_law.nd rfl (Or.inl rfl) (pe_lst (pa_cons (pe_cmpR (op_eqD hr.units) (pe_call G_law_enter (hr.mono (by decide)) (by rfl) T.g_law_enter T.law_enter.kp T.b_law_enter .nil pass0 (pa_cons (pv 3) (pa_cons (pv 6) pa_nil))) (pe_tup (pa_cons pe_str (pa_cons (pv 6) (pa_cons pe_bl pa_nil)))) (nomark _)) pa_nil)))
  (C8.pss_cut (ps_if (pt_not (pt_truth (pe_prop (pv 3) T.k_Database T.m_Database_is_open G_Database_is_open (hr.mono (by decide)) T.b_Database_is_open .nil pass0 rfl) (by intro _; rfl))) (pss_one (ps_expr (pe_bm PySem.F.plainAttrs_list PySem.F.slot_list_append PySem.F.type_list_append mt_append (pv 7) (pa_cons (pe_cmpR (op_eqD hr.units) (pe_call G_law_enter (hr.mono (by decide)) (by rfl) T.g_law_enter T.law_enter.kp T.b_law_enter .nil pass0 (pa_cons (pv 3) (pa_cons pe_str pa_nil))) (pe_tup (pa_cons pe_str (pa_cons pe_str (pa_cons pe_bl pa_nil)))) (nomark _)) pa_nil)))) (pss_cons (ps_expr (pe_bm PySem.F.plainAttrs_list PySem.F.slot_list_append PySem.F.type_list_append mt_append (pv 7) (pa_cons (pe_cmpR (op_eqD hr.units) (pe_call G_law_enter (hr.mono (by decide)) (by rfl) T.g_law_enter T.law_enter.kp T.b_law_enter .nil pass0 (pa_cons (pv 3) (pa_cons pe_str pa_nil))) (pe_tup (pa_cons pe_str (pa_cons pe_str (pa_cons pe_bl pa_nil)))) (nomark _)) pa_nil)))
  (pss_one (ps_expr (pe_bm PySem.F.plainAttrs_list PySem.F.slot_list_append PySem.F.type_list_append mt_append (pv 7) (pa_cons (pe_cmpR (op_eqD hr.units) (pe_call G_law_enter (hr.mono (by decide)) (by rfl) T.g_law_enter T.law_enter.kp T.b_law_enter .nil pass0 (pa_cons (pv 3) (pa_cons pe_str pa_nil))) (pe_tup (pa_cons pe_str (pa_cons pe_str (pa_cons pe_bl pa_nil)))) (nomark _)) pa_nil))))))
  (C8.pss_cut (ps_if (pt_truth (pe_prop (pv 3) T.k_Database T.m_Database_is_doomed G_Database_is_doomed (hr.mono (by decide)) T.b_Database_is_doomed .nil pass0 rfl) (by intro _; rfl)) (pss_one (ps_expr (pe_bm PySem.F.plainAttrs_list PySem.F.slot_list_append PySem.F.type_list_append mt_append (pv 7) (pa_cons (pe_cmpR (op_eqD hr.units) (pe_call G_law_enter (hr.mono (by decide)) (by rfl) T.g_law_enter T.law_enter.kp T.b_law_enter .nil pass0 (pa_cons (pv 3) (pa_cons pe_str pa_nil))) (pe_tup (pa_cons pe_str (pa_cons (pe_prop (pv 3) T.k_Database T.m_Database_reason G_Database_reason (hr.mono (by decide)) T.b_Database_reason .nil pass0 rfl) (pa_cons pe_bl pa_nil)))) (nomark _)) pa_nil)))) pss_nil)
  (pss_cons (ps_for PassesOwn.never rfl (pi_list (pe_lst (pa_cons pe_int (pa_cons pe_int (pa_cons pe_int pa_nil))))) (pg_name (i := 8) sc_law.nd rfl (Or.inl rfl))
  (pss_one (ps_expr (pe_bm PySem.F.plainAttrs_list PySem.F.slot_list_append PySem.F.type_list_append mt_append (pv 7) (pa_cons (pe_cmpR (op_eqD hr.units) (pe_call G_law_other (hr.mono (by decide)) (by rfl) T.g_law_other T.law_other.kp T.b_law_other .nil pass0 (pa_cons (pv 3) (pa_cons (pv 8) (pa_cons (pv 6) pa_nil)))) (pe_tup (pa_cons pe_str (pa_cons (pv 6) (pa_cons pe_bl pa_nil)))) (nomark _)) pa_nil)))))
  (pss_cons (ps_set (i := 9) sc_law.nd rfl (Or.inl rfl) (pe_call G_law_word (hr.mono (by decide)) (by rfl) T.g_law_word T.law_word.kp T.b_law_word .nil pass0 (pa_cons (pv 2) pa_nil)))
  (C8.pss_cut (ps_if (pt_cmpR op_notIn_seq (pv 9) (pv 4) (by rfl)) (pss_one (ps_expr (pe_bm PySem.F.plainAttrs_list PySem.F.slot_list_append PySem.F.type_list_append mt_append (pv 7) (pa_cons (pe_and (pe_cmpR (op_eqD hr.units) (pe_call G_law_other (hr.mono (by decide)) (by rfl) T.g_law_other T.law_other.kp T.b_law_other .nil pass0 (pa_cons (pv 3) (pa_cons pe_int (pa_cons (pv 9) pa_nil)))) (pe_tup (pa_cons pe_str (pa_cons (pv 9) (pa_cons pe_bl pa_nil)))) (nomark _)) (pe_one (pe_cmpR (op_notInO T.m_DatabaseU_containsU G_DatabaseU_containsU (hr.mono (by decide)) T.b_DatabaseU_containsU) (pv 9) (pv 3) (by rfl)))) pa_nil)))) pss_nil)
  (C8.pss_cut (ps_if (pt_cmpR op_eq (pe_prop (pv 3) T.k_Database T.m_Database_depth G_Database_depth (hr.mono (by decide)) T.b_Database_depth .nil pass0 rfl) pe_int (nomark _)) (pss_one (ps_expr (pe_bm PySem.F.plainAttrs_list PySem.F.slot_list_append PySem.F.type_list_append mt_append (pv 7) (pa_cons (pe_cmpR (op_eqD hr.units) (pe_call G_law_other (hr.mono (by decide)) (by rfl) T.g_law_other T.law_other.kp T.b_law_other .nil pass0 (pa_cons (pv 3) (pa_cons pe_int (pa_cons (pv 6) pa_nil)))) (pe_tup (pa_cons pe_str (pa_cons pe_non (pa_cons pe_bl pa_nil)))) (nomark _)) pa_nil)))) (pss_one (ps_if (pt_cmpR op_notN (pv 6) pe_non (nomark _)) (pss_one (ps_expr (pe_bm PySem.F.plainAttrs_list PySem.F.slot_list_append PySem.F.type_list_append mt_append (pv 7) (pa_cons (pe_cmpR (op_eqD hr.units) (pe_call G_law_other (hr.mono (by decide)) (by rfl) T.g_law_other T.law_other.kp T.b_law_other .nil pass0 (pa_cons (pv 3) (pa_cons pe_int (pa_cons (pv 6) pa_nil)))) (pe_tup (pa_cons pe_str (pa_cons (pv 6) (pa_cons pe_bl pa_nil)))) (nomark _)) pa_nil)))) pss_nil)))
  (pss_one (ps_if (PW.pt (pw_or (pt_cmpR op_in_seq pe_bl (pv 7) (by rfl)) (pw_or1 (pt_cmpR op_ne (pe_callG G_law_seen (hr.mono (by decide)) hgd (by rfl) T.g_law_seen T.law_seen.kp T.b_law_seen .nil pass0 (pa_cons (pv 3) pa_nil)) (pv 5) (nomark _))))) (pss_one (ps_ret pe_bl)) pss_nil))))))))))))))
  (pss_one (ps_ret pe_bl))), ?_⟩
    dsimp only [cxOf]
    walk_at "rd"
    refine for_range (fun i σ H1 => i ≤ 8 ∧ Same H H1 ∧ ∃ v1 v2 v3 v4 v5 v6 v7 v8 v9, σ = [some (.ref sa), v1, v2, v3, v4, v5, v6, v7, v8, v9]) ?_ ?_ ?_
    · exact ⟨by omega, Same.refl H, _, _, _, _, _, _, _, _, _, rfl⟩
    · rintro i σ H1 hi ⟨_, s1, v1, v2, v3, v4, v5, v6, v7, v8, v9, rfl⟩
      have hi8 : i < 8 := by revert hi; split <;> split <;> omega
      refine ⟨_, rfl, _, rfl, sa, ns, i, ?_, s1.seq hS, by omega, fun p o hp ho => ?_⟩
      · rw [Int.zero_add]; rfl
      have W0 : Wd a H (upd H1 p o) [] [(p, o)] := (wd_new.onto s1).addC hp ho.ni
      generalize upd H1 p o = H2 at W0 ⊢
      walk_at "rd"
      refine ⟨H, p, o, 0, rfl, W0, ho, by omega, fun H3 t q ml L D o3 W3 ht ho3 g3 fl3 => ?_⟩
      walk_at "rd"
      generalize hx : L.db = x
      refine ⟨L, D, 60, by rw [hx] <;> rfl, W3.db 0 _ rfl, g3, by omega, fun H4 s4 => ?_⟩
      have W4 := W3.keep s4
      have hp4 : H4 p = some o3 := W4.cl 0 _ rfl
      generalize hsn : (seenD D D.rows).shown = sn
      walk_at "rd"
      intro v H5 o5 od hp5 ho5 k5
      have W5 := W4.putC (i := 0) rfl k5 hp5 ho5.ni
      obtain ⟨X, dv, W6, oc⟩ := odd_of od W4 W5 fun i z e => by
        match i, e with
        | 0, e => cases e; exact ⟨_, hp4⟩
        | 1, e => cases e; exact ⟨_, W4.cl 1 _ rfl⟩
        | 2, e => cases e; exact ⟨_, W4.cl 2 _ rfl⟩
      clear W0 W3 W4 W5 k5 od
      have f6 : ∀ {F : Hp} {L' : Lay} {cs : List (Addr × HO)}, Wd a H F [(L', D)] (cs ++ X) → ∀ (i : Nat) (y : Addr × HO), X[i]? = some y → F y.1 = some y.2 := fun {F L' cs} W i y e => W.cl (cs.length + i) y (by rw [List.getElem?_append_right (Nat.le_add_right _ _), Nat.add_sub_cancel_left]; exact e)
      have hx6 := (W6.db 0 _ rfl).db
      rw [hx] at hx6
      walk_at "rd"
      refine ⟨L, D, v, by rw [hx] <;> rfl, oc.th (f6 W6), W6.db 0 _ rfl, g3.sm (by omega), fun H7 L7 hD7 f7 => ?_⟩
      rw [enter_odd oc.mb] at hD7 ⊢
      have W7 := W6.putD (j := 0) rfl hD7 f7
      intro t1 ht1
      walk_at "rd"
      intro t2 ht2
      have W8 := W7.keep ((Same.refl H7).new (o := .tup [.str "badmode", v, .bl true]) ht2)
      refine eq3 (upd_old ht1 ht2) upd_same (oc.dp (f6 W8)) (oc.sh _ a1) ?_
      generalize upd H7 t2 (.tup [.str "badmode", v, .bl true]) = H8 at W8 ⊢
      walk_at "rd"
      intro dq hdq
      have W9 : Wd a H (upd H8 dq (.lst [.bl true])) [(L7, D)] (([(p, o5), (ml, .lst modesV), (q, .lst (usedL D))] ++ X) ++ [(dq, .lst [.bl true])]) := W8.addC hdq lst_ni
      have M9 : M6 a H (upd H8 dq (.lst [.bl true])) x p q dq X D 1000 1 := by
        refine ⟨L7, o5, 1, ?_, f7.db.trans hx, ho5.mono (by omega), Nat.le_refl 1⟩
        rcases oc.ln with rfl | ⟨y, rfl⟩
        · refine W9.re (fun n => if n = 0 then 0 else if n = 1 then 2 else if n = 2 then 3 else n + 5) (fun i z e => ?_) (fun i j e => ?_)
          · rcases i with _ | _ | _ | i
            · exact e
            · exact e
            · exact e
            · cases e
          · repeat' split at e
            all_goals omega
        · refine W9.re (fun n => if n = 0 then 0 else if n = 1 then 2 else if n = 2 then 4 else if n = 3 then 3 else n + 5) (fun i z e => ?_) (fun i j e => ?_)
          · rcases i with _ | _ | _ | _ | i
            · exact e
            · exact e
            · exact e
            · exact e
            · cases e
          · repeat' split at e
            all_goals omega
      generalize upd H8 dq (.lst [.bl true]) = H9 at M9 ⊢
      clear W6 W7 W8 W9 hD7 f7 ht1 ht2 hx6
      walk_at "rd"
      refine ⟨fun σ F => M6 a H F x p q dq X D 1000 10 ∧ σ = [some (.ref sa), some (.int (0 + (i : Int))), some (.ref p), some (.ref x), some (.ref q), some (.str sn), some v, some (.ref dq), v8, v9], ?_, ?_⟩
      · obtain ⟨L, o, m, W, el, ho, hm⟩ := M9
        have hx1 := (W.db 0 _ rfl).db
        rw [el] at hx1
        walk_at "rd"
        refine ⟨L, D, by rw [el] <;> rfl, W.db 0 _ rfl, g3.sm (by omega), ?_⟩
        refine ⟨_, rfl, ?_⟩
        dsimp only
        have hd1 : H9 dq = some (.lst (List.replicate m (.bl true))) := W.cl 2 _ rfl
        have lm : (List.replicate m (V.bl true)).length < sizeLine := by rw [List.length_replicate, sizeLine_eq]; omega
        cases hop : openD D with
        | false =>
          refine iteT ?_
          walk_at "rd"
          refine ⟨L, D, .str "must", by rw [el] <;> rfl, mode_thing (by simp), W.db 0 _ rfl, g3.sm (by omega), fun H10 L10 hD10 f10 => ?_⟩
          rw [enter_must g3 hop] at hD10 ⊢
          have W10 := W.putD (j := 0) rfl hD10 f10
          intro t1 ht1
          walk_at "rd"
          intro t2 ht2
          have W11 := W10.keep ((Same.refl H10).new (o := .tup [.str "missing", .str "must", .bl true]) ht2)
          refine eq3 (upd_old ht1 ht2) upd_same (.str _) (shp3 a2 (asc_ok a8) (Nat.zero_le _)) ?_
          generalize upd H10 t2 (.tup [.str "missing", .str "must", .bl true]) = H11 at W11 ⊢
          have hd2 : H11 dq = some (.lst (List.replicate m (.bl true))) := W11.cl 2 _ rfl
          walk_at "rd"
          have W12 := W11.setC (i := 2) (.lst (List.replicate m (V.bl true) ++ [.bl true])) rfl lst_ni
          rw [rep_snoc] at W12 ⊢
          exact ⟨⟨L10, o, m + 1, W12, f10.db.trans el, ho, by omega⟩, rfl⟩
        | true =>
          refine iteF ?_
          walk_at "rd"
          refine ⟨L, D, .str "never", by rw [el] <;> rfl, mode_thing (by simp), W.db 0 _ rfl, g3.sm (by omega), fun H10 L10 hD10 f10 => ?_⟩
          rw [(enter_never g3 hop).1] at hD10 ⊢
          have W10 := W.putD (j := 0) rfl hD10 f10
          intro t1 ht1
          walk_at "rd"
          intro t2 ht2
          have W11 := W10.keep ((Same.refl H10).new (o := .tup [.str "present", .str "never", .bl true]) ht2)
          refine eq3 (upd_old ht1 ht2) upd_same (.str _) (shp3 a3 (asc_ok a9) (Nat.zero_le _)) ?_
          generalize upd H10 t2 (.tup [.str "present", .str "never", .bl true]) = H11 at W11 ⊢
          have hd2 : H11 dq = some (.lst (List.replicate m (.bl true))) := W11.cl 2 _ rfl
          walk_at "rd"
          have W12 := W11.setC (i := 2) (.lst (List.replicate m (V.bl true) ++ [.bl true])) rfl lst_ni
          rw [rep_snoc] at W12 ⊢
          generalize upd H11 dq (.lst (List.replicate (m + 1) (V.bl true))) = H12 at W12 ⊢
          have el10 := f10.db.trans el
          have hx12 := (W12.db 0 _ rfl).db
          rw [el10] at hx12
          have hd12 : H12 dq = some (.lst (List.replicate (m + 1) (.bl true))) := W12.cl 2 _ rfl
          have lm2 : (List.replicate (m + 1) (V.bl true)).length < sizeLine := by rw [List.length_replicate, sizeLine_eq]; omega
          clear W10 W11 hD10 ht1 ht2 W hd1 hd2 hx1
          walk_at "rd"
          refine ⟨L10, D, .str "alone", by rw [el10] <;> rfl, mode_thing (by simp), W12.db 0 _ rfl, g3.sm (by omega), fun H13 L13 hD13 f13 => ?_⟩
          rw [(enter_never g3 hop).2] at hD13 ⊢
          have W13 := W12.putD (j := 0) rfl hD13 f13
          intro t1 ht1
          walk_at "rd"
          intro t2 ht2
          have W14 := W13.keep ((Same.refl H13).new (o := .tup [.str "present", .str "alone", .bl true]) ht2)
          refine eq3 (upd_old ht1 ht2) upd_same (.str _) (shp3 a3 (asc_ok a10) (Nat.zero_le _)) ?_
          generalize upd H13 t2 (.tup [.str "present", .str "alone", .bl true]) = H14 at W14 ⊢
          have hd14 : H14 dq = some (.lst (List.replicate (m + 1) (.bl true))) := W14.cl 2 _ rfl
          walk_at "rd"
          have W15 := W14.setC (i := 2) (.lst (List.replicate (m + 1) (V.bl true) ++ [.bl true])) rfl lst_ni
          rw [rep_snoc] at W15 ⊢
          exact ⟨⟨L13, o, m + 1 + 1, W15, f13.db.trans el10, ho, by omega⟩, rfl⟩
      · clear M9
        rintro σ H9 ⟨M9, rfl⟩
        refine ⟨fun σ F => M6 a H F x p q dq X D 1000 11 ∧ σ = [some (.ref sa), some (.int (0 + (i : Int))), some (.ref p), some (.ref x), some (.ref q), some (.str sn), some v, some (.ref dq), v8, v9], ?_, ?_⟩
        · obtain ⟨L, o, m, W, el, ho, hm⟩ := M9
          have hx1 := (W.db 0 _ rfl).db
          rw [el] at hx1
          walk_at "rd"
          refine ⟨L, D, by rw [el] <;> rfl, W.db 0 _ rfl, g3.sm (by omega), ?_⟩
          refine ⟨_, rfl, ?_⟩
          dsimp only
          cases hdo : reasonD D with
          | none => exact iteF ⟨⟨L, o, m, W, el, ho, by omega⟩, rfl⟩
          | some z =>
            refine iteT ?_
            have hd1 : H9 dq = some (.lst (List.replicate m (.bl true))) := W.cl 2 _ rfl
            have lm : (List.replicate m (V.bl true)).length < sizeLine := by rw [List.length_replicate, sizeLine_eq]; omega
            have wz : IsWord z := g3.reason z hdo
            walk_at "rd"
            refine ⟨L, D, .str "inner", by rw [el] <;> rfl, mode_thing (by simp), W.db 0 _ rfl, g3.sm (by omega), fun H10 L10 hD10 f10 => ?_⟩
            rw [enter_inner g3 hdo] at hD10 ⊢
            have W10 := W.putD (j := 0) rfl hD10 f10
            have el10 := f10.db.trans el
            have hx10 := (W10.db 0 _ rfl).db
            rw [el10] at hx10
            intro t1 ht1
            walk_at "rd"
            refine ⟨L10, D, by rw [el10] <;> rfl, W10.db 0 _ rfl, g3.sm (by omega), ?_⟩
            dsimp only
            rw [hdo]
            walk_at "rd"
            intro t2 ht2
            have W11 := W10.keep ((Same.refl H10).new (o := .tup [.str "doomed", .str z, .bl true]) ht2)
            refine eq3 (upd_old ht1 ht2) upd_same (.str _) (shp3 a4 (asc_ok wz.asc) (Nat.zero_le _)) ?_
            have W11 : Wd a H (upd H10 t2 (.tup [.str "doomed", oV (some z), .bl true])) [(L10, D)] _ := W11
            generalize upd H10 t2 (.tup [.str "doomed", oV (some z), .bl true]) = H11 at W11 ⊢
            have hd2 : H11 dq = some (.lst (List.replicate m (.bl true))) := W11.cl 2 _ rfl
            walk_at "rd"
            have W12 := W11.setC (i := 2) (.lst (List.replicate m (V.bl true) ++ [.bl true])) rfl lst_ni
            rw [rep_snoc] at W12 ⊢
            exact ⟨⟨L10, o, m + 1, W12, el10, ho, by omega⟩, rfl⟩
        · clear M9
          rintro σ H9 ⟨M9, rfl⟩
          walk_at "rd"
          intro l0 hl0
          refine ⟨_, rfl, ⟨_, SqL.of upd_same⟩, ?_⟩
          have M10 : M6 a H (upd H9 l0 (.lst [.int 0, .int 1, .int 2])) x p q dq (X ++ [(l0, .lst [.int 0, .int 1, .int 2])]) D 1000 11 := by
            obtain ⟨L, o, m, W, el, ho, hm⟩ := M9
            have W' := W.addC (p := l0) (o := .lst [.int 0, .int 1, .int 2]) hl0 lst_ni
            rw [List.append_assoc] at W'
            exact ⟨L, o, m, W', el, ho, hm⟩
          have fX : ∀ {F : Hp} {L' : Lay} {cs : List (Addr × HO)}, Wd a H F [(L', D)] (cs ++ (X ++ [(l0, .lst [.int 0, .int 1, .int 2])])) → F l0 = some (.lst [.int 0, .int 1, .int 2]) ∧ ∀ (i : Nat) (y : Addr × HO), X[i]? = some y → F y.1 = some y.2 := fun {F L' cs} W => by
            rw [← List.append_assoc] at W
            exact ⟨W.cl (cs ++ X).length (l0, _) (by rw [List.getElem?_append_right (Nat.le_refl _), Nat.sub_self]; rfl), f6 W.drop⟩
          generalize upd H9 l0 (.lst [.int 0, .int 1, .int 2]) = H10 at M10 ⊢
          clear M9
          refine for_list (xs := [.int 0, .int 1, .int 2]) (fun j σ F => M6 a H F x p q dq (X ++ [(l0, .lst [.int 0, .int 1, .int 2])]) D 1000 (11 + j) ∧ ∃ v8, σ = [some (.ref sa), some (.int (0 + (i : Int))), some (.ref p), some (.ref x), some (.ref q), some (.str sn), some v, some (.ref dq), v8, v9]) ?_ ?_ ?_ ?_
          · exact ⟨M10, _, rfl⟩
          · rintro j σ F _ ⟨⟨L, o, m, W, _⟩, _⟩
            exact SqL.of (fX W).1
          · rintro j y σ F ey ⟨⟨L, o, m, W, el, ho, hm⟩, v8, rfl⟩
            have hj : j < 3 := (List.getElem?_eq_some_iff.mp ey).1
            have hd1 : F dq = some (.lst (List.replicate m (.bl true))) := W.cl 2 _ rfl
            have lm : (List.replicate m (V.bl true)).length < sizeLine := by rw [List.length_replicate, sizeLine_eq]; omega
            have oth : ∀ r : Int, r = 0 ∨ r = 1 ∨ r = 2 → otE D r v (.badword v) := fun r h => by
              rcases h with rfl | rfl | rfl
              · exact .inl ⟨rfl, oc.wb, rfl⟩
              · exact .inr (.inl ⟨rfl, get_odd oc.wb, .inl rfl⟩)
              · exact .inr (.inr (.inl ⟨rfl, oc.wb, rfl⟩))
            obtain ⟨r, rfl, hr⟩ : ∃ r : Int, y = .int r ∧ (r = 0 ∨ r = 1 ∨ r = 2) := by
              rcases j with _ | _ | _ | j
              · cases ey; exact ⟨0, rfl, .inl rfl⟩
              · cases ey; exact ⟨1, rfl, .inr (.inl rfl)⟩
              · cases ey; exact ⟨2, rfl, .inr (.inr rfl)⟩
              · omega
            walk_at "rd"
            refine ⟨L, D, r, v, .badword v, by rw [el] <;> rfl, oc.th (fX W).2, W.db 0 _ rfl, g3.sm (by omega), by rw [fl3]; exact Int.le_refl _, g3.wf, oth r hr, fun H10 L10 hD10 f10 => ?_⟩
            have W10 := W.putD (j := 0) rfl hD10 f10
            intro t1 ht1
            walk_at "rd"
            intro t2 ht2
            have W11 := W10.keep ((Same.refl H10).new (o := .tup [.str "badword", v, .bl true]) ht2)
            refine eq3 (upd_old ht1 ht2) upd_same (oc.dp (fX W11).2) (oc.sh _ a5) ?_
            generalize upd H10 t2 (.tup [.str "badword", v, .bl true]) = H11 at W11 ⊢
            have hd2 : H11 dq = some (.lst (List.replicate m (.bl true))) := W11.cl 2 _ rfl
            walk_at "rd"
            have W12 := W11.setC (i := 2) (.lst (List.replicate m (V.bl true) ++ [.bl true])) rfl lst_ni
            rw [rep_snoc] at W12 ⊢
            exact ⟨⟨L10, o, m + 1, W12, f10.db.trans el, ho, by omega⟩, _, rfl⟩
          · rintro σ F ⟨M11, v8, rfl⟩
            have M12 : M6 a H F x p q dq X D 1000 14 := by
              obtain ⟨L, o, m, W, el, ho, hm⟩ := M11
              rw [← List.append_assoc] at W
              exact ⟨L, o, m, W.drop, el, ho, hm⟩
            clear M11 M10 fX
            obtain ⟨L, o, m, W, el, ho, hm⟩ := M12
            have hp1 : F p = some o := W.cl 0 _ rfl
            dsimp only
            walk_at "rd"
            intro z o2 H11 hz ho2 hp2 k2
            have M12 : M6 a H H11 x p q dq X D 1009 14 := ⟨L, o2, m, W.putC (i := 0) rfl k2 hp2 ho2.ni, el, ho2, hm⟩
            clear W ho k2 hp1 hp2 ho2
            walk_at "rd"
            refine ⟨fun σ F => M6 a H F x p q dq X D 1009 15 ∧ σ = [some (.ref sa), some (.int (0 + (i : Int))), some (.ref p), some (.ref x), some (.ref q), some (.str sn), some v, some (.ref dq), v8, some (.str z)], ?_, ?_⟩
            · obtain ⟨L, o, m, W, el, ho, hm⟩ := M12
              have hu : H11 q = some (.lst ((D.rows.map (·.rcd)).map V.str)) := by
                have := W.cl 1 _ rfl
                rw [List.map_map]; exact this
              have hx1 := (W.db 0 _ rfl).db
              rw [el] at hx1
              have hd1 : H11 dq = some (.lst (List.replicate m (.bl true))) := W.cl 2 _ rfl
              have lm : (List.replicate m (V.bl true)).length < sizeLine := by rw [List.length_replicate, sizeLine_eq]; omega
              walk_at "rd"
              refine ⟨flat_strs, ?_⟩
              rw [show (if true = true then !inV (V.str z) ((D.rows.map (·.rcd)).map V.str) else inV (V.str z) ((D.rows.map (·.rcd)).map V.str)) = !inV (V.str z) ((D.rows.map (·.rcd)).map V.str) from rfl, inV_strs]
              cases b1 : decide (z ∈ D.rows.map (·.rcd)) with
              | true => exact ⟨_, rfl, iteF ⟨⟨L, o, m, W, el, ho, by omega⟩, rfl⟩⟩
              | false =>
                refine ⟨_, rfl, iteT ?_⟩
                have nz : ¬ V.str z ∈ usedL D := fun h => by
                  obtain ⟨r, h1, h2⟩ := List.mem_map.mp h
                  exact of_decide_eq_false b1 (List.mem_map.mpr ⟨r, h1, V.str.inj h2⟩)
                obtain ⟨gf1, gf2⟩ := get_fresh hz nz
                walk_at "rd"
                refine ⟨L, D, 1, .str z, .norecord z, by rw [el] <;> rfl, word_thing hz, W.db 0 _ rfl, g3.sm (by omega), by rw [fl3]; exact Int.le_refl _, g3.wf, .inr (.inl ⟨rfl, gf1, .inr ⟨z, rfl⟩⟩), fun H12 L12 hD12 f12 => ?_⟩
                have W12 := W.putD (j := 0) rfl hD12 f12
                have el12 := f12.db.trans el
                intro t1 ht1
                walk_at "rd"
                intro t2 ht2
                have W13 := W12.keep ((Same.refl H12).new (o := .tup [.str "norecord", .str z, .bl true]) ht2)
                refine eq3 (upd_old ht1 ht2) upd_same (.str _) (shp3 a6 (asc_ok hz.asc) (Nat.zero_le _)) ?_
                generalize upd H12 t2 (.tup [.str "norecord", .str z, .bl true]) = H13 at W13 ⊢
                have hx13 := (W13.db 0 _ rfl).db
                rw [el12] at hx13
                clear hx1 hd1 hu
                walk_at "rd"
                refine ⟨L12, D, .str z, by rw [el12] <;> rfl, word_thing hz, W13.db 0 _ rfl, g3.sm (by omega), fun H14 s14 => ?_⟩
                rw [gf2]
                have W14 := W13.keep s14
                have hd2 : H14 dq = some (.lst (List.replicate m (.bl true))) := W14.cl 2 _ rfl
                walk_at "rd"
                have W15 : Wd a H (upd H14 dq (.lst (List.replicate m (V.bl true) ++ [.bl true]))) [(L12, D)] ([(p, o), (q, .lst (usedL D)), (dq, .lst (List.replicate (m + 1) (V.bl true)))] ++ X) := by
                  have := W14.setC (i := 2) (.lst (List.replicate m (V.bl true) ++ [.bl true])) rfl lst_ni
                  rw [rep_snoc] at this ⊢
                  exact this
                exact ⟨⟨L12, o, m + 1, W15, el12, ho, by omega⟩, rfl⟩
            · clear M12
              rintro σ F ⟨M12, rfl⟩
              refine ⟨fun σ F => M6 a H F x p q dq X D 1009 16 ∧ σ = [some (.ref sa), some (.int (0 + (i : Int))), some (.ref p), some (.ref x), some (.ref q), some (.str sn), some v, some (.ref dq), v8, some (.str z)], ?_, ?_⟩
              · obtain ⟨L, o, m, W, el, ho, hm⟩ := M12
                have hx1 := (W.db 0 _ rfl).db
                rw [el] at hx1
                have hd1 : F dq = some (.lst (List.replicate m (.bl true))) := W.cl 2 _ rfl
                have lm : (List.replicate m (V.bl true)).length < sizeLine := by rw [List.length_replicate, sizeLine_eq]; omega
                walk_at "rd"
                refine ⟨L, D, by rw [el] <;> rfl, W.db 0 _ rfl, g3.sm (by omega), ?_⟩
                dsimp only
                walk_at "rd"
                refine ite2 (fun b1 => ?_) (fun b1 => ?_)
                · have b0 : D.entered.length = 0 := by
                    have := V.int.inj (of_decide_eq_true b1)
                    omega
                  walk_at "rd"
                  refine ⟨L, D, 3, v, .noblock, by rw [el] <;> rfl, oc.th (f6 W), W.db 0 _ rfl, g3.sm (by omega), by rw [fl3]; exact Int.le_refl _, g3.wf, .inr (.inr (.inr ⟨rfl, leave_odd0 b0 fl3 oc.wb, .inr rfl⟩)), fun H12 L12 hD12 f12 => ?_⟩
                  have W12 := W.putD (j := 0) rfl hD12 f12
                  intro t1 ht1
                  walk_at "rd"
                  intro t2 ht2
                  have W13 := W12.keep ((Same.refl H12).new (o := .tup [.str "noblock", .non, .bl true]) ht2)
                  refine eq3 (upd_old ht1 ht2) upd_same .non (shp3 a7 rfl (Nat.zero_le _)) ?_
                  generalize upd H12 t2 (.tup [.str "noblock", .non, .bl true]) = H13 at W13 ⊢
                  have hd2 : H13 dq = some (.lst (List.replicate m (.bl true))) := W13.cl 2 _ rfl
                  walk_at "rd"
                  have W15 := W13.setC (i := 2) (.lst (List.replicate m (V.bl true) ++ [.bl true])) rfl lst_ni
                  rw [rep_snoc] at W15 ⊢
                  exact ⟨⟨L12, o, m + 1, W15, f12.db.trans el, ho, by omega⟩, rfl⟩
                · have b0 : D.entered.length ≠ 0 := fun e => b1 (decide_eq_true (by rw [e]; rfl))
                  walk_at "rd"
                  refine ite2 (fun b2 => ?_) (fun b2 => ?_)
                  · have nv : v ≠ .non := fun e => by rw [e] at b2; cases b2
                    walk_at "rd"
                    refine ⟨L, D, 3, v, .badword v, by rw [el] <;> rfl, oc.th (f6 W), W.db 0 _ rfl, g3.sm (by omega), by rw [fl3]; exact Int.le_refl _, g3.wf, .inr (.inr (.inr ⟨rfl, leave_odd1 b0 fl3 oc.wb nv, .inl rfl⟩)), fun H12 L12 hD12 f12 => ?_⟩
                    have W12 := W.putD (j := 0) rfl hD12 f12
                    intro t1 ht1
                    walk_at "rd"
                    intro t2 ht2
                    have W13 := W12.keep ((Same.refl H12).new (o := .tup [.str "badword", v, .bl true]) ht2)
                    refine eq3 (upd_old ht1 ht2) upd_same (oc.dp (f6 W13)) (oc.sh _ a5) ?_
                    generalize upd H12 t2 (.tup [.str "badword", v, .bl true]) = H13 at W13 ⊢
                    have hd2 : H13 dq = some (.lst (List.replicate m (.bl true))) := W13.cl 2 _ rfl
                    walk_at "rd"
                    have W15 := W13.setC (i := 2) (.lst (List.replicate m (V.bl true) ++ [.bl true])) rfl lst_ni
                    rw [rep_snoc] at W15 ⊢
                    exact ⟨⟨L12, o, m + 1, W15, f12.db.trans el, ho, by omega⟩, rfl⟩
                  · exact ⟨⟨L, o, m, W, el, ho, by omega⟩, rfl⟩
              · clear M12
                rintro σ F ⟨M12, rfl⟩
                obtain ⟨L, o, m, W, el, ho, hm⟩ := M12
                have hx1 := (W.db 0 _ rfl).db
                rw [el] at hx1
                have hd1 : F dq = some (.lst (List.replicate m (.bl true))) := W.cl 2 _ rfl
                have fl : (List.replicate m (V.bl true)).all flatV = true := by
                  rw [List.all_replicate]; split <;> rfl
                have iv : inV (.bl false) (List.replicate m (V.bl true)) = false := by
                  unfold inV
                  rw [List.any_replicate]; split <;> rfl
                walk_at "rd"
                rw [show (if false = true then !inV (V.bl false) (List.replicate m (V.bl true)) else inV (V.bl false) (List.replicate m (V.bl true))) = inV (V.bl false) (List.replicate m (V.bl true)) from rfl, iv]
                walk_at "rd"
                refine ⟨L, D, 60, by rw [el] <;> rfl, W.db 0 _ rfl, g3, by omega, fun F2 s2 => ?_⟩
                rw [hsn]
                walk_at "rd"
                rw [show (!decide (V.str sn = V.str sn)) = false by rw [decide_eq_true rfl]; rfl]
                exact ⟨by omega, (W.keep s2).same, _, _, _, _, _, _, _, _, _, rfl⟩
    · rintro σ H1 ⟨_, s1, v1, v2, v3, v4, v5, v6, v7, v8, v9, rfl⟩
      walk_at "rd"
      exact k H1
end
theorem all_mk {w : World} {K : PySem.W.Frag} {h : Heap} {mg : Str → Option Value} {fa : Addr} (X : K.In h) (G : h.Ns mainGlobals mg) (hfa : mg "law" = some (.ref fa))
    {C1 : Addr}
    {t6 : Tok}
    {t8 : Tok}
    {t10 : Tok}
    {t12 : Tok}
    {t14 : Tok}
    {t16 : Tok}
    {t18 : Tok}
    {t20 : Tok}
    {t24 t25 t26 t27 t28 t29 t30 t31 : Tok} {p22 : Addr} {dd32 : Option Addr} {nn33 : Nat} {sl34 : Array (Option Value)}
    {f35 p36 : Addr} {rs39 : List Value}
    {od40 an40 : Option Addr} {sl40 : Array (Option Value)} {oc40 kV40 dc40 pm40 cd40 ct40 : Value}
    {f41 : Addr}
    {od43 an43 : Option Addr} {sl43 : Array (Option Value)} {oc43 kV43 dc43 pm43 cd43 ct43 : Value}
    {C45 : Addr}
    {f47 : Addr} {nm48 qn48 : Str} {N48 : Addr} {bs48 bm48 : List Value} {sn48 : List Str} {sub48 : List Value} {ab48 : Bool} {col48 : Option Bool} {dd48 : Option Addr} {k048 k148 k248 k348 k548 : Option Value}
    {oc48 : Value} {od48 : Option Addr} {doc48 pm48 : Value} {an48 : Option Addr} {cda48 cc48 : Addr} {ct48 : Value} {osl48 : Array (Option Value)} {ccl48 : Value} {cdd48 : Option Addr} {vs48 : Array Value} {ccs48 : Array (Option Value)} {tf48 : Tok} {cl48 : Value} {cld48 : Option Addr} {csl48 : Array (Option Value)}
    {C71 : Addr}
    {f73 : Addr} {nm74 qn74 : Str} {N74 : Addr} {bs74 bm74 : List Value} {sn74 : List Str} {sub74 : List Value} {ab74 : Bool} {col74 : Option Bool} {dd74 : Option Addr} {k074 k174 k274 k374 k574 : Option Value}
    {oc74 : Value} {od74 : Option Addr} {doc74 pm74 : Value} {an74 : Option Addr} {cda74 cc74 : Addr} {ct74 : Value} {osl74 : Array (Option Value)} {ccl74 : Value} {cdd74 : Option Addr} {vs74 : Array Value} {ccs74 : Array (Option Value)} {tf74 : Tok} {cl74 : Value} {cld74 : Option Addr} {csl74 : Array (Option Value)}
    {C97 : Addr}
    {f99 : Addr} {nm100 qn100 : Str} {N100 : Addr} {bs100 bm100 : List Value} {sn100 : List Str} {sub100 : List Value} {ab100 : Bool} {col100 : Option Bool} {dd100 : Option Addr} {k0100 k1100 k2100 k3100 k5100 : Option Value}
    {oc100 : Value} {od100 : Option Addr} {doc100 pm100 : Value} {an100 : Option Addr} {cda100 cc100 : Addr} {ct100 : Value} {osl100 : Array (Option Value)} {ccl100 : Value} {cdd100 : Option Addr} {vs100 : Array Value} {ccs100 : Array (Option Value)} {tf100 : Tok} {cl100 : Value} {cld100 : Option Addr} {csl100 : Array (Option Value)}
    {C123 : Addr}
    {f125 : Addr} {nm126 qn126 : Str} {N126 : Addr} {bs126 bm126 : List Value} {sn126 : List Str} {sub126 : List Value} {ab126 : Bool} {col126 : Option Bool} {dd126 : Option Addr} {k0126 k1126 k2126 k3126 k5126 : Option Value}
    {oc126 : Value} {od126 : Option Addr} {doc126 pm126 : Value} {an126 : Option Addr} {cda126 cc126 : Addr} {ct126 : Value} {osl126 : Array (Option Value)} {ccl126 : Value} {cdd126 : Option Addr} {vs126 : Array Value} {ccs126 : Array (Option Value)} {tf126 : Tok} {cl126 : Value} {cld126 : Option Addr} {csl126 : Array (Option Value)}
    {C148 : Addr}
    {f150 : Addr} {nm151 qn151 : Str} {N151 : Addr} {bs151 bm151 : List Value} {sn151 : List Str} {sub151 : List Value} {ab151 : Bool} {col151 : Option Bool} {dd151 : Option Addr} {k0151 k1151 k2151 k3151 k5151 : Option Value}
    {oc151 : Value} {od151 : Option Addr} {doc151 pm151 : Value} {an151 : Option Addr} {cda151 cc151 : Addr} {ct151 : Value} {osl151 : Array (Option Value)} {ccl151 : Value} {cdd151 : Option Addr} {vs151 : Array Value} {ccs151 : Array (Option Value)} {tf151 : Tok} {cl151 : Value} {cld151 : Option Addr} {csl151 : Array (Option Value)}
    {C172 : Addr}
    {f174 : Addr} {nm175 qn175 : Str} {N175 : Addr} {bs175 bm175 : List Value} {sn175 : List Str} {sub175 : List Value} {ab175 : Bool} {col175 : Option Bool} {dd175 : Option Addr} {k0175 k1175 k2175 k3175 k5175 : Option Value}
    {oc175 : Value} {od175 : Option Addr} {doc175 pm175 : Value} {an175 : Option Addr} {cda175 cc175 : Addr} {ct175 : Value} {osl175 : Array (Option Value)} {ccl175 : Value} {cdd175 : Option Addr} {vs175 : Array Value} {ccs175 : Array (Option Value)} {tf175 : Tok} {cl175 : Value} {cld175 : Option Addr} {csl175 : Array (Option Value)}
    {C198 : Addr}
    {f200 : Addr} {nm201 qn201 : Str} {N201 : Addr} {bs201 bm201 : List Value} {sn201 : List Str} {sub201 : List Value} {ab201 : Bool} {col201 : Option Bool} {dd201 : Option Addr} {k0201 k1201 k2201 k3201 k5201 : Option Value}
    {oc201 : Value} {od201 : Option Addr} {doc201 pm201 : Value} {an201 : Option Addr} {cda201 cc201 : Addr} {ct201 : Value} {osl201 : Array (Option Value)} {ccl201 : Value} {cdd201 : Option Addr} {vs201 : Array Value} {ccs201 : Array (Option Value)} {tf201 : Tok} {cl201 : Value} {cld201 : Option Addr} {csl201 : Array (Option Value)}
    {C223 : Addr}
    {f225 : Addr} {nm226 qn226 : Str} {N226 : Addr} {bs226 bm226 : List Value} {sn226 : List Str} {sub226 : List Value} {ab226 : Bool} {col226 : Option Bool} {dd226 : Option Addr} {k0226 k1226 k2226 k3226 k5226 : Option Value}
    {oc226 : Value} {od226 : Option Addr} {doc226 pm226 : Value} {an226 : Option Addr} {cda226 cc226 : Addr} {ct226 : Value} {osl226 : Array (Option Value)} {ccl226 : Value} {cdd226 : Option Addr} {vs226 : Array Value} {ccs226 : Array (Option Value)} {tf226 : Tok} {cl226 : Value} {cld226 : Option Addr} {csl226 : Array (Option Value)}
    {C248 : Addr}
    {f250 : Addr} {nm251 qn251 : Str} {N251 : Addr} {bs251 bm251 : List Value} {sn251 : List Str} {sub251 : List Value} {ab251 : Bool} {col251 : Option Bool} {dd251 : Option Addr} {k0251 k1251 k2251 k3251 k5251 : Option Value}
    {oc251 : Value} {od251 : Option Addr} {doc251 pm251 : Value} {an251 : Option Addr} {cda251 cc251 : Addr} {ct251 : Value} {osl251 : Array (Option Value)} {ccl251 : Value} {cdd251 : Option Addr} {vs251 : Array Value} {ccs251 : Array (Option Value)} {tf251 : Tok} {cl251 : Value} {cld251 : Option Addr} {csl251 : Array (Option Value)}
    {C273 : Addr}
    {f275 : Addr} {nm276 qn276 : Str} {N276 : Addr} {bs276 bm276 : List Value} {sn276 : List Str} {sub276 : List Value} {ab276 : Bool} {col276 : Option Bool} {dd276 : Option Addr} {k0276 k1276 k2276 k3276 k5276 : Option Value}
    {oc276 : Value} {od276 : Option Addr} {doc276 pm276 : Value} {an276 : Option Addr} {cda276 cc276 : Addr} {ct276 : Value} {osl276 : Array (Option Value)} {ccl276 : Value} {cdd276 : Option Addr} {vs276 : Array Value} {ccs276 : Array (Option Value)} {tf276 : Tok} {cl276 : Value} {cld276 : Option Addr} {csl276 : Array (Option Value)}
    {C307 : Addr}
    {f318 : Addr}
    {od323 an323 : Option Addr} {sl323 : Array (Option Value)} {oc323 kV323 dc323 pm323 cd323 ct323 : Value}
    {C324 : Addr}
    {f332 : Addr}
    {od337 an337 : Option Addr} {sl337 : Array (Option Value)} {oc337 kV337 dc337 pm337 cd337 ct337 : Value}
    {C338 : Addr}
    {f349 : Addr}
    {od354 an354 : Option Addr} {sl354 : Array (Option Value)} {oc354 kV354 dc354 pm354 cd354 ct354 : Value}
    {f355 : Addr}
    {od358 an358 : Option Addr} {sl358 : Array (Option Value)} {oc358 kV358 dc358 pm358 cd358 ct358 : Value}
    {f359 : Addr}
    {od362 an362 : Option Addr} {sl362 : Array (Option Value)} {oc362 kV362 dc362 pm362 cd362 ct362 : Value}
    {f363 : Addr}
    {od366 an366 : Option Addr} {sl366 : Array (Option Value)} {oc366 kV366 dc366 pm366 cd366 ct366 : Value}
    {f367 : Addr}
    {od370 an370 : Option Addr} {sl370 : Array (Option Value)} {oc370 kV370 dc370 pm370 cd370 ct370 : Value}
    {f371 : Addr}
    {od374 an374 : Option Addr} {sl374 : Array (Option Value)} {oc374 dc374 pm374 cd374 ct374 : Value}
    {T375 : Addr} {oc376 : Value} {od377 : Option Addr} {on378 : Nat} {os379 : Array (Option Value)}
    {t380 : Tok}
    {kV374 : Value}
    {f382 : Addr}
    {od385 an385 : Option Addr} {sl385 : Array (Option Value)} {oc385 kV385 dc385 pm385 cd385 ct385 : Value}
    {f386 : Addr}
    {od389 an389 : Option Addr} {sl389 : Array (Option Value)} {oc389 kV389 dc389 pm389 cd389 ct389 : Value}
    {f390 : Addr}
    {od393 an393 : Option Addr} {sl393 : Array (Option Value)} {oc393 dc393 pm393 cd393 ct393 : Value}
    {T394 : Addr} {oc395 : Value} {od396 : Option Addr} {on397 : Nat} {os398 : Array (Option Value)}
    {D401 : Addr}
    {f404 : Addr}
    {od407 an407 : Option Addr} {sl407 : Array (Option Value)} {oc407 kV407 dc407 pm407 cd407 ct407 : Value}
    {f408 : Addr}
    {od411 an411 : Option Addr} {sl411 : Array (Option Value)} {oc411 kV411 dc411 pm411 cd411 ct411 : Value}
    {f412 : Addr}
    {od415 an415 : Option Addr} {sl415 : Array (Option Value)} {oc415 kV415 dc415 pm415 cd415 ct415 : Value}
    {f416 : Addr}
    {od419 an419 : Option Addr} {sl419 : Array (Option Value)} {oc419 kV419 dc419 pm419 cd419 ct419 : Value}
    {f420 : Addr}
    {od423 an423 : Option Addr} {sl423 : Array (Option Value)} {oc423 kV423 dc423 pm423 cd423 ct423 : Value}
    {f424 : Addr}
    {od427 an427 : Option Addr} {sl427 : Array (Option Value)} {oc427 kV427 dc427 pm427 cd427 ct427 : Value}
    {f428 : Addr}
    {od431 an431 : Option Addr} {sl431 : Array (Option Value)} {oc431 kV431 dc431 pm431 cd431 ct431 : Value}
    {f432 : Addr}
    {od435 an435 : Option Addr} {sl435 : Array (Option Value)} {oc435 kV435 dc435 pm435 cd435 ct435 : Value}
    {f436 : Addr}
    {od439 an439 : Option Addr} {sl439 : Array (Option Value)} {oc439 kV439 dc439 pm439 cd439 ct439 : Value}
    {f440 : Addr}
    {od443 an443 : Option Addr} {sl443 : Array (Option Value)} {oc443 kV443 dc443 pm443 cd443 ct443 : Value}
    {f444 : Addr}
    {od447 an447 : Option Addr} {sl447 : Array (Option Value)} {oc447 kV447 dc447 pm447 cd447 ct447 : Value}
    {f448 p449 : Addr} {rs450 : List Value}
    {od455 an455 : Option Addr} {sl455 : Array (Option Value)} {oc455 kV455 dc455 pm455 cd455 ct455 : Value}
    {f456 p457 : Addr} {rs458 : List Value}
    {od463 an463 : Option Addr} {sl463 : Array (Option Value)} {oc463 kV463 dc463 pm463 cd463 ct463 : Value}
    {f464 p465 : Addr} {rs466 : List Value}
    {od471 an471 : Option Addr} {sl471 : Array (Option Value)} {oc471 kV471 dc471 pm471 cd471 ct471 : Value}
    {f472 p473 : Addr} {rs474 : List Value}
    {od479 an479 : Option Addr} {sl479 : Array (Option Value)} {oc479 kV479 dc479 pm479 cd479 ct479 : Value}
    {f480 p481 : Addr} {rs482 : List Value}
    {od487 an487 : Option Addr} {sl487 : Array (Option Value)} {oc487 kV487 dc487 pm487 cd487 ct487 : Value}
    {f489 : Addr}
    {od491 an491 : Option Addr} {sl491 : Array (Option Value)} {oc491 kV491 dc491 pm491 cd491 ct491 : Value}
    {f492 : Addr}
    {od494 an494 : Option Addr} {sl494 : Array (Option Value)} {oc494 kV494 dc494 pm494 cd494 ct494 : Value}
    {f495 : Addr}
    {od497 an497 : Option Addr} {sl497 : Array (Option Value)} {oc497 kV497 dc497 pm497 cd497 ct497 : Value}
    {f498 : Addr}
    {od500 an500 : Option Addr} {sl500 : Array (Option Value)} {oc500 kV500 dc500 pm500 cd500 ct500 : Value}
    {f501 : Addr}
    {od503 an503 : Option Addr} {sl503 : Array (Option Value)} {oc503 kV503 dc503 pm503 cd503 ct503 : Value}
    {f504 : Addr}
    {od506 an506 : Option Addr} {sl506 : Array (Option Value)} {oc506 kV506 dc506 pm506 cd506 ct506 : Value}
    {f507 : Addr}
    {od509 an509 : Option Addr} {sl509 : Array (Option Value)} {oc509 kV509 dc509 pm509 cd509 ct509 : Value}
    {f510 : Addr}
    {od512 an512 : Option Addr} {sl512 : Array (Option Value)} {oc512 kV512 dc512 pm512 cd512 ct512 : Value}
    {f513 : Addr}
    {od515 an515 : Option Addr} {sl515 : Array (Option Value)} {oc515 kV515 dc515 pm515 cd515 ct515 : Value}
    {od516 an516 : Option Addr} {sl516 : Array (Option Value)} {oc516 kV516 dc516 pm516 cd516 ct516 : Value}
    {C537 : Addr}
    (a2 : PySem.W.nsIn K mainGlobals "Mode" = some (some (.ref C1)))
    (r3 : PySem.W.readsIn K C1 (.type "type") = true)
    (s4 : PySem.W.specialIn K (.ref C1) "__getattribute__" = some (some (.builtin "type.__getattribute__")))
    (z5 : PySem.W.findCls K (.ref C1) (.type "type") "JOIN" = some (.val (.str "join" t6)))
    (z7 : PySem.W.findCls K (.ref C1) (.type "type") "INNER" = some (.val (.str "inner" t8)))
    (z9 : PySem.W.findCls K (.ref C1) (.type "type") "APART" = some (.val (.str "apart" t10)))
    (z11 : PySem.W.findCls K (.ref C1) (.type "type") "MUST" = some (.val (.str "must" t12)))
    (z13 : PySem.W.findCls K (.ref C1) (.type "type") "EITHER" = some (.val (.str "either" t14)))
    (z15 : PySem.W.findCls K (.ref C1) (.type "type") "NEVER" = some (.val (.str "never" t16)))
    (z17 : PySem.W.findCls K (.ref C1) (.type "type") "OUTSIDE" = some (.val (.str "outside" t18)))
    (z19 : PySem.W.findCls K (.ref C1) (.type "type") "ALONE" = some (.val (.str "alone" t20)))
    (z21 : PySem.W.findCls K (.ref C1) (.type "type") "ALL" = some (.val (.ref p22)))
    (l23 : K.lookup p22 = some ⟨.type "tuple", dd32, .seq #[.str "join" t24, .str "inner" t25, .str "apart" t26, .str "must" t27, .str "either" t28, .str "never" t29, .str "outside" t30, .str "alone" t31] nn33, sl34⟩)
    (z37 : PySem.W.findCls K (.ref C1) (.type "type") "is_mode" = some (.get (.builtin "staticmethod.__get__") (.ref p36) .none (.ref C1)))
    (r38 : PySem.W.recIn K p36 "staticmethod" = some (.ref f35 :: rs39))
    (l40 : K.lookup f35 = some ⟨oc40, od40, .func (PySem.W.fnOf "is_mode" "Mode.is_mode" (defArgs s_Mode_is_mode) (defBody s_Mode_is_mode) (defScope s_Mode_is_mode) .none kV40 dc40 pm40 an40 cd40 ct40), sl40⟩)
    (c40 : PySem.W.codeIn K cd40 "Mode.is_mode" = true)
    (k40 : PySem.W.keepIn K (.ref f35) = true)
    (a42 : PySem.W.nsIn K mainGlobals "is_word" = some (some (.ref f41)))
    (l43 : K.lookup f41 = some ⟨oc43, od43, .func (PySem.W.fnOf "is_word" "is_word" (defArgs s_is_word) (defBody s_is_word) (defScope s_is_word) .none kV43 dc43 pm43 an43 cd43 ct43), sl43⟩)
    (c43 : PySem.W.codeIn K cd43 "is_word" = true)
    (k43 : PySem.W.keepIn K (.ref f41) = true)
    (z44 : PySem.W.nsIn K cStatics "thirdparty.any" = some none)
    (a46 : PySem.W.nsIn K mainGlobals "Missing" = some (some (.ref C45)))
    (e49 : K.lookup C45 = some (excClassObj nm48 qn48 C45 N48 bs48 bm48 true sn48 sub48 ab48 col48 dd48 k048 k148 k248 k348 k548 "ValueError.__new__"))
    (e50 : PySem.HandSPX.refsVE bm48 = true)
    (e51 : PySem.W.findIn K (.ref C45) "__setattr__" = some (some (.builtin "object.__setattr__")))
    (e52 : PySem.W.findIn K (.ref C45) "__getattribute__" = some (some (.builtin "BaseException.__getattribute__")))
    (e53 : PySem.W.findIn K (.ref C45) "__getattr__" = some none)
    (e54 : PySem.W.findIn K (.ref C45) "__init__" = some (some (.ref f47)))
    (e55 : PySem.W.typeIn K (.ref f47) = some (.type "function"))
    (e56 : PySem.W.keepIn K (.ref C45) = true)
    (e57 : PySem.W.subIn K (.ref C45) (.type "BaseException") = some true)
    (e58 : PySem.W.subIn K (.ref C45) (.type "ValueError") = some true)
    (e59 : PySem.W.typeIn K (.ref C45) = some (.type "type"))
    (e60 : PySem.W.hasDictIn K C45 = true)
    (e61 : PySem.W.ks_superIn K C45 C45 "__init__" = some (some (.builtin "ValueError.__init__")))
    (e62 : PySem.W.mroIn K C45 (.ref C45) = some true)
    (e63 : PySem.W.exmOne K (.ref C45) (.ref C45) = some true)
    (e64 : K.lookup f47 = some ⟨oc48, od48, .func (PySem.W.ksFn "__init__" "Missing.__init__" (defArgs s_MissingU_initU) (defBody s_MissingU_initU) (defScope s_MissingU_initU) .none .none doc48 pm48 an48 (.ref cda48) ct48 cc48), osl48⟩)
    (e65 : PySem.W.codeIn K (.ref cda48) "Missing.__init__" = true)
    (e66 : K.lookup cda48 = some ⟨ccl48, cdd48, .fields vs48, ccs48⟩)
    (e67 : vs48[2]? = some (.str P.main.file tf48))
    (e68 : K.lookup cc48 = some ⟨cl48, cld48, .cell (some (.ref C45)), csl48⟩)
    (e69 : PySem.W.findIn K (.ref C45) "word" = some none)
    (e70 : PySem.W.findIn K (.ref C45) "mode" = some none)
    (a72 : PySem.W.nsIn K mainGlobals "Present" = some (some (.ref C71)))
    (e75 : K.lookup C71 = some (excClassObj nm74 qn74 C71 N74 bs74 bm74 true sn74 sub74 ab74 col74 dd74 k074 k174 k274 k374 k574 "ValueError.__new__"))
    (e76 : PySem.HandSPX.refsVE bm74 = true)
    (e77 : PySem.W.findIn K (.ref C71) "__setattr__" = some (some (.builtin "object.__setattr__")))
    (e78 : PySem.W.findIn K (.ref C71) "__getattribute__" = some (some (.builtin "BaseException.__getattribute__")))
    (e79 : PySem.W.findIn K (.ref C71) "__getattr__" = some none)
    (e80 : PySem.W.findIn K (.ref C71) "__init__" = some (some (.ref f73)))
    (e81 : PySem.W.typeIn K (.ref f73) = some (.type "function"))
    (e82 : PySem.W.keepIn K (.ref C71) = true)
    (e83 : PySem.W.subIn K (.ref C71) (.type "BaseException") = some true)
    (e84 : PySem.W.subIn K (.ref C71) (.type "ValueError") = some true)
    (e85 : PySem.W.typeIn K (.ref C71) = some (.type "type"))
    (e86 : PySem.W.hasDictIn K C71 = true)
    (e87 : PySem.W.ks_superIn K C71 C71 "__init__" = some (some (.builtin "ValueError.__init__")))
    (e88 : PySem.W.mroIn K C71 (.ref C71) = some true)
    (e89 : PySem.W.exmOne K (.ref C71) (.ref C71) = some true)
    (e90 : K.lookup f73 = some ⟨oc74, od74, .func (PySem.W.ksFn "__init__" "Present.__init__" (defArgs s_PresentU_initU) (defBody s_PresentU_initU) (defScope s_PresentU_initU) .none .none doc74 pm74 an74 (.ref cda74) ct74 cc74), osl74⟩)
    (e91 : PySem.W.codeIn K (.ref cda74) "Present.__init__" = true)
    (e92 : K.lookup cda74 = some ⟨ccl74, cdd74, .fields vs74, ccs74⟩)
    (e93 : vs74[2]? = some (.str P.main.file tf74))
    (e94 : K.lookup cc74 = some ⟨cl74, cld74, .cell (some (.ref C71)), csl74⟩)
    (e95 : PySem.W.findIn K (.ref C71) "word" = some none)
    (e96 : PySem.W.findIn K (.ref C71) "mode" = some none)
    (a98 : PySem.W.nsIn K mainGlobals "Doomed" = some (some (.ref C97)))
    (e101 : K.lookup C97 = some (excClassObj nm100 qn100 C97 N100 bs100 bm100 true sn100 sub100 ab100 col100 dd100 k0100 k1100 k2100 k3100 k5100 "ValueError.__new__"))
    (e102 : PySem.HandSPX.refsVE bm100 = true)
    (e103 : PySem.W.findIn K (.ref C97) "__setattr__" = some (some (.builtin "object.__setattr__")))
    (e104 : PySem.W.findIn K (.ref C97) "__getattribute__" = some (some (.builtin "BaseException.__getattribute__")))
    (e105 : PySem.W.findIn K (.ref C97) "__getattr__" = some none)
    (e106 : PySem.W.findIn K (.ref C97) "__init__" = some (some (.ref f99)))
    (e107 : PySem.W.typeIn K (.ref f99) = some (.type "function"))
    (e108 : PySem.W.keepIn K (.ref C97) = true)
    (e109 : PySem.W.subIn K (.ref C97) (.type "BaseException") = some true)
    (e110 : PySem.W.subIn K (.ref C97) (.type "ValueError") = some true)
    (e111 : PySem.W.typeIn K (.ref C97) = some (.type "type"))
    (e112 : PySem.W.hasDictIn K C97 = true)
    (e113 : PySem.W.ks_superIn K C97 C97 "__init__" = some (some (.builtin "ValueError.__init__")))
    (e114 : PySem.W.mroIn K C97 (.ref C97) = some true)
    (e115 : PySem.W.exmOne K (.ref C97) (.ref C97) = some true)
    (e116 : K.lookup f99 = some ⟨oc100, od100, .func (PySem.W.ksFn "__init__" "Doomed.__init__" (defArgs s_DoomedU_initU) (defBody s_DoomedU_initU) (defScope s_DoomedU_initU) .none .none doc100 pm100 an100 (.ref cda100) ct100 cc100), osl100⟩)
    (e117 : PySem.W.codeIn K (.ref cda100) "Doomed.__init__" = true)
    (e118 : K.lookup cda100 = some ⟨ccl100, cdd100, .fields vs100, ccs100⟩)
    (e119 : vs100[2]? = some (.str P.main.file tf100))
    (e120 : K.lookup cc100 = some ⟨cl100, cld100, .cell (some (.ref C97)), csl100⟩)
    (e121 : PySem.W.findIn K (.ref C97) "word" = some none)
    (e122 : PySem.W.findIn K (.ref C97) "first" = some none)
    (a124 : PySem.W.nsIn K mainGlobals "Refused" = some (some (.ref C123)))
    (e127 : K.lookup C123 = some (excClassObj nm126 qn126 C123 N126 bs126 bm126 true sn126 sub126 ab126 col126 dd126 k0126 k1126 k2126 k3126 k5126 "ValueError.__new__"))
    (e128 : PySem.HandSPX.refsVE bm126 = true)
    (e129 : PySem.W.findIn K (.ref C123) "__setattr__" = some (some (.builtin "object.__setattr__")))
    (e130 : PySem.W.findIn K (.ref C123) "__getattribute__" = some (some (.builtin "BaseException.__getattribute__")))
    (e131 : PySem.W.findIn K (.ref C123) "__getattr__" = some none)
    (e132 : PySem.W.findIn K (.ref C123) "__init__" = some (some (.ref f125)))
    (e133 : PySem.W.typeIn K (.ref f125) = some (.type "function"))
    (e134 : PySem.W.keepIn K (.ref C123) = true)
    (e135 : PySem.W.subIn K (.ref C123) (.type "BaseException") = some true)
    (e136 : PySem.W.subIn K (.ref C123) (.type "ValueError") = some true)
    (e137 : PySem.W.typeIn K (.ref C123) = some (.type "type"))
    (e138 : PySem.W.hasDictIn K C123 = true)
    (e139 : PySem.W.ks_superIn K C123 C123 "__init__" = some (some (.builtin "ValueError.__init__")))
    (e140 : PySem.W.mroIn K C123 (.ref C123) = some true)
    (e141 : PySem.W.exmOne K (.ref C123) (.ref C123) = some true)
    (e142 : K.lookup f125 = some ⟨oc126, od126, .func (PySem.W.ksFn "__init__" "Refused.__init__" (defArgs s_RefusedU_initU) (defBody s_RefusedU_initU) (defScope s_RefusedU_initU) .none .none doc126 pm126 an126 (.ref cda126) ct126 cc126), osl126⟩)
    (e143 : PySem.W.codeIn K (.ref cda126) "Refused.__init__" = true)
    (e144 : K.lookup cda126 = some ⟨ccl126, cdd126, .fields vs126, ccs126⟩)
    (e145 : vs126[2]? = some (.str P.main.file tf126))
    (e146 : K.lookup cc126 = some ⟨cl126, cld126, .cell (some (.ref C123)), csl126⟩)
    (e147 : PySem.W.findIn K (.ref C123) "word" = some none)
    (a149 : PySem.W.nsIn K mainGlobals "NoBlock" = some (some (.ref C148)))
    (e152 : K.lookup C148 = some (excClassObj nm151 qn151 C148 N151 bs151 bm151 true sn151 sub151 ab151 col151 dd151 k0151 k1151 k2151 k3151 k5151 "ValueError.__new__"))
    (e153 : PySem.HandSPX.refsVE bm151 = true)
    (e154 : PySem.W.findIn K (.ref C148) "__setattr__" = some (some (.builtin "object.__setattr__")))
    (e155 : PySem.W.findIn K (.ref C148) "__getattribute__" = some (some (.builtin "BaseException.__getattribute__")))
    (e156 : PySem.W.findIn K (.ref C148) "__getattr__" = some none)
    (e157 : PySem.W.findIn K (.ref C148) "__init__" = some (some (.ref f150)))
    (e158 : PySem.W.typeIn K (.ref f150) = some (.type "function"))
    (e159 : PySem.W.keepIn K (.ref C148) = true)
    (e160 : PySem.W.subIn K (.ref C148) (.type "BaseException") = some true)
    (e161 : PySem.W.subIn K (.ref C148) (.type "ValueError") = some true)
    (e162 : PySem.W.typeIn K (.ref C148) = some (.type "type"))
    (e163 : PySem.W.hasDictIn K C148 = true)
    (e164 : PySem.W.ks_superIn K C148 C148 "__init__" = some (some (.builtin "ValueError.__init__")))
    (e165 : PySem.W.mroIn K C148 (.ref C148) = some true)
    (e166 : PySem.W.exmOne K (.ref C148) (.ref C148) = some true)
    (e167 : K.lookup f150 = some ⟨oc151, od151, .func (PySem.W.ksFn "__init__" "NoBlock.__init__" (defArgs s_NoBlockU_initU) (defBody s_NoBlockU_initU) (defScope s_NoBlockU_initU) .none .none doc151 pm151 an151 (.ref cda151) ct151 cc151), osl151⟩)
    (e168 : PySem.W.codeIn K (.ref cda151) "NoBlock.__init__" = true)
    (e169 : K.lookup cda151 = some ⟨ccl151, cdd151, .fields vs151, ccs151⟩)
    (e170 : vs151[2]? = some (.str P.main.file tf151))
    (e171 : K.lookup cc151 = some ⟨cl151, cld151, .cell (some (.ref C148)), csl151⟩)
    (a173 : PySem.W.nsIn K mainGlobals "Waits" = some (some (.ref C172)))
    (e176 : K.lookup C172 = some (excClassObj nm175 qn175 C172 N175 bs175 bm175 true sn175 sub175 ab175 col175 dd175 k0175 k1175 k2175 k3175 k5175 "ValueError.__new__"))
    (e177 : PySem.HandSPX.refsVE bm175 = true)
    (e178 : PySem.W.findIn K (.ref C172) "__setattr__" = some (some (.builtin "object.__setattr__")))
    (e179 : PySem.W.findIn K (.ref C172) "__getattribute__" = some (some (.builtin "BaseException.__getattribute__")))
    (e180 : PySem.W.findIn K (.ref C172) "__getattr__" = some none)
    (e181 : PySem.W.findIn K (.ref C172) "__init__" = some (some (.ref f174)))
    (e182 : PySem.W.typeIn K (.ref f174) = some (.type "function"))
    (e183 : PySem.W.keepIn K (.ref C172) = true)
    (e184 : PySem.W.subIn K (.ref C172) (.type "BaseException") = some true)
    (e185 : PySem.W.subIn K (.ref C172) (.type "ValueError") = some true)
    (e186 : PySem.W.typeIn K (.ref C172) = some (.type "type"))
    (e187 : PySem.W.hasDictIn K C172 = true)
    (e188 : PySem.W.ks_superIn K C172 C172 "__init__" = some (some (.builtin "ValueError.__init__")))
    (e189 : PySem.W.mroIn K C172 (.ref C172) = some true)
    (e190 : PySem.W.exmOne K (.ref C172) (.ref C172) = some true)
    (e191 : K.lookup f174 = some ⟨oc175, od175, .func (PySem.W.ksFn "__init__" "Waits.__init__" (defArgs s_WaitsU_initU) (defBody s_WaitsU_initU) (defScope s_WaitsU_initU) .none .none doc175 pm175 an175 (.ref cda175) ct175 cc175), osl175⟩)
    (e192 : PySem.W.codeIn K (.ref cda175) "Waits.__init__" = true)
    (e193 : K.lookup cda175 = some ⟨ccl175, cdd175, .fields vs175, ccs175⟩)
    (e194 : vs175[2]? = some (.str P.main.file tf175))
    (e195 : K.lookup cc175 = some ⟨cl175, cld175, .cell (some (.ref C172)), csl175⟩)
    (e196 : PySem.W.findIn K (.ref C172) "word" = some none)
    (e197 : PySem.W.findIn K (.ref C172) "record" = some none)
    (a199 : PySem.W.nsIn K mainGlobals "NoRecord" = some (some (.ref C198)))
    (e202 : K.lookup C198 = some (excClassObj nm201 qn201 C198 N201 bs201 bm201 true sn201 sub201 ab201 col201 dd201 k0201 k1201 k2201 k3201 k5201 "ValueError.__new__"))
    (e203 : PySem.HandSPX.refsVE bm201 = true)
    (e204 : PySem.W.findIn K (.ref C198) "__setattr__" = some (some (.builtin "object.__setattr__")))
    (e205 : PySem.W.findIn K (.ref C198) "__getattribute__" = some (some (.builtin "BaseException.__getattribute__")))
    (e206 : PySem.W.findIn K (.ref C198) "__getattr__" = some none)
    (e207 : PySem.W.findIn K (.ref C198) "__init__" = some (some (.ref f200)))
    (e208 : PySem.W.typeIn K (.ref f200) = some (.type "function"))
    (e209 : PySem.W.keepIn K (.ref C198) = true)
    (e210 : PySem.W.subIn K (.ref C198) (.type "BaseException") = some true)
    (e211 : PySem.W.subIn K (.ref C198) (.type "ValueError") = some true)
    (e212 : PySem.W.typeIn K (.ref C198) = some (.type "type"))
    (e213 : PySem.W.hasDictIn K C198 = true)
    (e214 : PySem.W.ks_superIn K C198 C198 "__init__" = some (some (.builtin "ValueError.__init__")))
    (e215 : PySem.W.mroIn K C198 (.ref C198) = some true)
    (e216 : PySem.W.exmOne K (.ref C198) (.ref C198) = some true)
    (e217 : K.lookup f200 = some ⟨oc201, od201, .func (PySem.W.ksFn "__init__" "NoRecord.__init__" (defArgs s_NoRecordU_initU) (defBody s_NoRecordU_initU) (defScope s_NoRecordU_initU) .none .none doc201 pm201 an201 (.ref cda201) ct201 cc201), osl201⟩)
    (e218 : PySem.W.codeIn K (.ref cda201) "NoRecord.__init__" = true)
    (e219 : K.lookup cda201 = some ⟨ccl201, cdd201, .fields vs201, ccs201⟩)
    (e220 : vs201[2]? = some (.str P.main.file tf201))
    (e221 : K.lookup cc201 = some ⟨cl201, cld201, .cell (some (.ref C198)), csl201⟩)
    (e222 : PySem.W.findIn K (.ref C198) "record" = some none)
    (a224 : PySem.W.nsIn K mainGlobals "BadWord" = some (some (.ref C223)))
    (e227 : K.lookup C223 = some (excClassObj nm226 qn226 C223 N226 bs226 bm226 true sn226 sub226 ab226 col226 dd226 k0226 k1226 k2226 k3226 k5226 "ValueError.__new__"))
    (e228 : PySem.HandSPX.refsVE bm226 = true)
    (e229 : PySem.W.findIn K (.ref C223) "__setattr__" = some (some (.builtin "object.__setattr__")))
    (e230 : PySem.W.findIn K (.ref C223) "__getattribute__" = some (some (.builtin "BaseException.__getattribute__")))
    (e231 : PySem.W.findIn K (.ref C223) "__getattr__" = some none)
    (e232 : PySem.W.findIn K (.ref C223) "__init__" = some (some (.ref f225)))
    (e233 : PySem.W.typeIn K (.ref f225) = some (.type "function"))
    (e234 : PySem.W.keepIn K (.ref C223) = true)
    (e235 : PySem.W.subIn K (.ref C223) (.type "BaseException") = some true)
    (e236 : PySem.W.subIn K (.ref C223) (.type "ValueError") = some true)
    (e237 : PySem.W.typeIn K (.ref C223) = some (.type "type"))
    (e238 : PySem.W.hasDictIn K C223 = true)
    (e239 : PySem.W.ks_superIn K C223 C223 "__init__" = some (some (.builtin "ValueError.__init__")))
    (e240 : PySem.W.mroIn K C223 (.ref C223) = some true)
    (e241 : PySem.W.exmOne K (.ref C223) (.ref C223) = some true)
    (e242 : K.lookup f225 = some ⟨oc226, od226, .func (PySem.W.ksFn "__init__" "BadWord.__init__" (defArgs s_BadWordU_initU) (defBody s_BadWordU_initU) (defScope s_BadWordU_initU) .none .none doc226 pm226 an226 (.ref cda226) ct226 cc226), osl226⟩)
    (e243 : PySem.W.codeIn K (.ref cda226) "BadWord.__init__" = true)
    (e244 : K.lookup cda226 = some ⟨ccl226, cdd226, .fields vs226, ccs226⟩)
    (e245 : vs226[2]? = some (.str P.main.file tf226))
    (e246 : K.lookup cc226 = some ⟨cl226, cld226, .cell (some (.ref C223)), csl226⟩)
    (e247 : PySem.W.findIn K (.ref C223) "word" = some none)
    (a249 : PySem.W.nsIn K mainGlobals "BadMode" = some (some (.ref C248)))
    (e252 : K.lookup C248 = some (excClassObj nm251 qn251 C248 N251 bs251 bm251 true sn251 sub251 ab251 col251 dd251 k0251 k1251 k2251 k3251 k5251 "ValueError.__new__"))
    (e253 : PySem.HandSPX.refsVE bm251 = true)
    (e254 : PySem.W.findIn K (.ref C248) "__setattr__" = some (some (.builtin "object.__setattr__")))
    (e255 : PySem.W.findIn K (.ref C248) "__getattribute__" = some (some (.builtin "BaseException.__getattribute__")))
    (e256 : PySem.W.findIn K (.ref C248) "__getattr__" = some none)
    (e257 : PySem.W.findIn K (.ref C248) "__init__" = some (some (.ref f250)))
    (e258 : PySem.W.typeIn K (.ref f250) = some (.type "function"))
    (e259 : PySem.W.keepIn K (.ref C248) = true)
    (e260 : PySem.W.subIn K (.ref C248) (.type "BaseException") = some true)
    (e261 : PySem.W.subIn K (.ref C248) (.type "ValueError") = some true)
    (e262 : PySem.W.typeIn K (.ref C248) = some (.type "type"))
    (e263 : PySem.W.hasDictIn K C248 = true)
    (e264 : PySem.W.ks_superIn K C248 C248 "__init__" = some (some (.builtin "ValueError.__init__")))
    (e265 : PySem.W.mroIn K C248 (.ref C248) = some true)
    (e266 : PySem.W.exmOne K (.ref C248) (.ref C248) = some true)
    (e267 : K.lookup f250 = some ⟨oc251, od251, .func (PySem.W.ksFn "__init__" "BadMode.__init__" (defArgs s_BadModeU_initU) (defBody s_BadModeU_initU) (defScope s_BadModeU_initU) .none .none doc251 pm251 an251 (.ref cda251) ct251 cc251), osl251⟩)
    (e268 : PySem.W.codeIn K (.ref cda251) "BadMode.__init__" = true)
    (e269 : K.lookup cda251 = some ⟨ccl251, cdd251, .fields vs251, ccs251⟩)
    (e270 : vs251[2]? = some (.str P.main.file tf251))
    (e271 : K.lookup cc251 = some ⟨cl251, cld251, .cell (some (.ref C248)), csl251⟩)
    (e272 : PySem.W.findIn K (.ref C248) "mode" = some none)
    (a274 : PySem.W.nsIn K mainGlobals "Failed" = some (some (.ref C273)))
    (e277 : K.lookup C273 = some (excClassObj nm276 qn276 C273 N276 bs276 bm276 true sn276 sub276 ab276 col276 dd276 k0276 k1276 k2276 k3276 k5276 "ValueError.__new__"))
    (e278 : PySem.HandSPX.refsVE bm276 = true)
    (e279 : PySem.W.findIn K (.ref C273) "__setattr__" = some (some (.builtin "object.__setattr__")))
    (e280 : PySem.W.findIn K (.ref C273) "__getattribute__" = some (some (.builtin "BaseException.__getattribute__")))
    (e281 : PySem.W.findIn K (.ref C273) "__getattr__" = some none)
    (e282 : PySem.W.findIn K (.ref C273) "__init__" = some (some (.ref f275)))
    (e283 : PySem.W.typeIn K (.ref f275) = some (.type "function"))
    (e284 : PySem.W.keepIn K (.ref C273) = true)
    (e285 : PySem.W.subIn K (.ref C273) (.type "BaseException") = some true)
    (e286 : PySem.W.subIn K (.ref C273) (.type "ValueError") = some true)
    (e287 : PySem.W.typeIn K (.ref C273) = some (.type "type"))
    (e288 : PySem.W.hasDictIn K C273 = true)
    (e289 : PySem.W.ks_superIn K C273 C273 "__init__" = some (some (.builtin "ValueError.__init__")))
    (e290 : PySem.W.mroIn K C273 (.ref C273) = some true)
    (e291 : PySem.W.exmOne K (.ref C273) (.ref C273) = some true)
    (e292 : K.lookup f275 = some ⟨oc276, od276, .func (PySem.W.ksFn "__init__" "Failed.__init__" (defArgs s_FailedU_initU) (defBody s_FailedU_initU) (defScope s_FailedU_initU) .none .none doc276 pm276 an276 (.ref cda276) ct276 cc276), osl276⟩)
    (e293 : PySem.W.codeIn K (.ref cda276) "Failed.__init__" = true)
    (e294 : K.lookup cda276 = some ⟨ccl276, cdd276, .fields vs276, ccs276⟩)
    (e295 : vs276[2]? = some (.str P.main.file tf276))
    (e296 : K.lookup cc276 = some ⟨cl276, cld276, .cell (some (.ref C273)), csl276⟩)
    (e297 : PySem.W.findIn K (.ref C273) "word" = some none)
    (z298 : PySem.W.exmOne K (.ref C45) (.ref C248) = some false)
    (z299 : PySem.W.exmOne K (.ref C71) (.ref C248) = some false)
    (z300 : PySem.W.exmOne K (.ref C71) (.ref C45) = some false)
    (z301 : PySem.W.exmOne K (.ref C97) (.ref C248) = some false)
    (z302 : PySem.W.exmOne K (.ref C97) (.ref C45) = some false)
    (z303 : PySem.W.exmOne K (.ref C97) (.ref C71) = some false)
    (z304 : PySem.W.exmOne K (.ref C198) (.ref C223) = some false)
    (z305 : PySem.W.exmOne K (.ref C148) (.ref C223) = some false)
    (z306 : PySem.W.exmOne K (.ref C148) (.ref C198) = some false)
    (a308 : PySem.W.nsIn K mainGlobals "Write" = some (some (.ref C307)))
    (q309 : PySem.W.plainGet K C307 Str.empty = true)
    (q310 : PySem.W.hasDictIn K C307 = true)
    (q311 : PySem.W.plainOver K C307 = true)
    (q312 : PySem.W.findIn K (.ref C307) "__setattr__" = some (some (.builtin "object.__setattr__")))
    (z313 : PySem.W.findIn K (.ref C307) "record" = some none)
    (z314 : PySem.W.findIn K (.ref C307) "value" = some none)
    (z315 : PySem.W.findIn K (.ref C307) "fate" = some none)
    (z316 : PySem.W.findIn K (.ref C307) "holder" = some none)
    (z317 : PySem.W.findIn K (.ref C307) "level" = some none)
    (q319 : PySem.W.makesIn K C307 = true)
    (q320 : PySem.W.findIn K (.ref C307) "__init__" = some (some (.ref f318)))
    (q321 : PySem.W.isFn K (.ref f318) = true)
    (q322 : PySem.W.keepIn K (.ref C307) = true)
    (l323 : K.lookup f318 = some ⟨oc323, od323, .func (PySem.W.fnOf "__init__" "Write.__init__" (defArgs s_WriteU_initU) (defBody s_WriteU_initU) (defScope s_WriteU_initU) .none kV323 dc323 pm323 an323 cd323 ct323), sl323⟩)
    (c323 : PySem.W.codeIn K cd323 "Write.__init__" = true)
    (k323 : PySem.W.keepIn K (.ref f318) = true)
    (a325 : PySem.W.nsIn K mainGlobals "Transaction" = some (some (.ref C324)))
    (q326 : PySem.W.plainGet K C324 Str.empty = true)
    (q327 : PySem.W.hasDictIn K C324 = true)
    (q328 : PySem.W.plainOver K C324 = true)
    (q329 : PySem.W.findIn K (.ref C324) "__setattr__" = some (some (.builtin "object.__setattr__")))
    (z330 : PySem.W.findIn K (.ref C324) "number" = some none)
    (z331 : PySem.W.findIn K (.ref C324) "reasons" = some none)
    (q333 : PySem.W.makesIn K C324 = true)
    (q334 : PySem.W.findIn K (.ref C324) "__init__" = some (some (.ref f332)))
    (q335 : PySem.W.isFn K (.ref f332) = true)
    (q336 : PySem.W.keepIn K (.ref C324) = true)
    (l337 : K.lookup f332 = some ⟨oc337, od337, .func (PySem.W.fnOf "__init__" "Transaction.__init__" (defArgs s_TransactionU_initU) (defBody s_TransactionU_initU) (defScope s_TransactionU_initU) .none kV337 dc337 pm337 an337 cd337 ct337), sl337⟩)
    (c337 : PySem.W.codeIn K cd337 "Transaction.__init__" = true)
    (k337 : PySem.W.keepIn K (.ref f332) = true)
    (a339 : PySem.W.nsIn K mainGlobals "Database" = some (some (.ref C338)))
    (q340 : PySem.W.plainGet K C338 Str.empty = true)
    (q341 : PySem.W.hasDictIn K C338 = true)
    (q342 : PySem.W.plainOver K C338 = true)
    (q343 : PySem.W.findIn K (.ref C338) "__setattr__" = some (some (.builtin "object.__setattr__")))
    (z344 : PySem.W.findIn K (.ref C338) "rows" = some none)
    (z345 : PySem.W.findIn K (.ref C338) "stack" = some none)
    (z346 : PySem.W.findIn K (.ref C338) "entered" = some none)
    (z347 : PySem.W.findIn K (.ref C338) "floor" = some none)
    (z348 : PySem.W.findIn K (.ref C338) "opened" = some none)
    (q350 : PySem.W.makesIn K C338 = true)
    (q351 : PySem.W.findIn K (.ref C338) "__init__" = some (some (.ref f349)))
    (q352 : PySem.W.isFn K (.ref f349) = true)
    (q353 : PySem.W.keepIn K (.ref C338) = true)
    (l354 : K.lookup f349 = some ⟨oc354, od354, .func (PySem.W.fnOf "__init__" "Database.__init__" (defArgs s_DatabaseU_initU) (defBody s_DatabaseU_initU) (defScope s_DatabaseU_initU) .none kV354 dc354 pm354 an354 cd354 ct354), sl354⟩)
    (c354 : PySem.W.codeIn K cd354 "Database.__init__" = true)
    (k354 : PySem.W.keepIn K (.ref f349) = true)
    (q356 : PySem.W.findIn K (.ref C338) "begin" = some (some (.ref f355)))
    (q357 : PySem.W.isFn K (.ref f355) = true)
    (l358 : K.lookup f355 = some ⟨oc358, od358, .func (PySem.W.fnOf "begin" "Database.begin" (defArgs s_Database_begin) (defBody s_Database_begin) (defScope s_Database_begin) .none kV358 dc358 pm358 an358 cd358 ct358), sl358⟩)
    (c358 : PySem.W.codeIn K cd358 "Database.begin" = true)
    (k358 : PySem.W.keepIn K (.ref f355) = true)
    (q360 : PySem.W.findIn K (.ref C338) "enter_alone" = some (some (.ref f359)))
    (q361 : PySem.W.isFn K (.ref f359) = true)
    (l362 : K.lookup f359 = some ⟨oc362, od362, .func (PySem.W.fnOf "enter_alone" "Database.enter_alone" (defArgs s_Database_enter_alone) (defBody s_Database_enter_alone) (defScope s_Database_enter_alone) .none kV362 dc362 pm362 an362 cd362 ct362), sl362⟩)
    (c362 : PySem.W.codeIn K cd362 "Database.enter_alone" = true)
    (k362 : PySem.W.keepIn K (.ref f359) = true)
    (q364 : PySem.W.findIn K (.ref C338) "enter_inside" = some (some (.ref f363)))
    (q365 : PySem.W.isFn K (.ref f363) = true)
    (l366 : K.lookup f363 = some ⟨oc366, od366, .func (PySem.W.fnOf "enter_inside" "Database.enter_inside" (defArgs s_Database_enter_inside) (defBody s_Database_enter_inside) (defScope s_Database_enter_inside) .none kV366 dc366 pm366 an366 cd366 ct366), sl366⟩)
    (c366 : PySem.W.codeIn K cd366 "Database.enter_inside" = true)
    (k366 : PySem.W.keepIn K (.ref f363) = true)
    (q368 : PySem.W.findIn K (.ref C338) "enter" = some (some (.ref f367)))
    (q369 : PySem.W.isFn K (.ref f367) = true)
    (l370 : K.lookup f367 = some ⟨oc370, od370, .func (PySem.W.fnOf "enter" "Database.enter" (defArgs s_Database_enter) (defBody s_Database_enter) (defScope s_Database_enter) .none kV370 dc370 pm370 an370 cd370 ct370), sl370⟩)
    (c370 : PySem.W.codeIn K cd370 "Database.enter" = true)
    (k370 : PySem.W.keepIn K (.ref f367) = true)
    (q372 : PySem.W.findIn K (.ref C338) "doom" = some (some (.ref f371)))
    (q373 : PySem.W.isFn K (.ref f371) = true)
    (l374 : K.lookup f371 = some ⟨oc374, od374, .func (PySem.W.fnOf "doom" "Database.doom" (defArgs s_Database_doom) (defBody s_Database_doom) (defScope s_Database_doom) (.ref T375) kV374 dc374 pm374 an374 cd374 ct374), sl374⟩)
    (c374 : PySem.W.codeIn K cd374 "Database.doom" = true)
    (k374 : PySem.W.keepIn K (.ref f371) = true)
    (lT381 : K.lookup T375 = some ⟨oc376, od377, .seq #[.str "doom" t380] on378, os379⟩)
    (q383 : PySem.W.findIn K (.ref C338) "end_level" = some (some (.ref f382)))
    (q384 : PySem.W.isFn K (.ref f382) = true)
    (l385 : K.lookup f382 = some ⟨oc385, od385, .func (PySem.W.fnOf "end_level" "Database.end_level" (defArgs s_Database_end_level) (defBody s_Database_end_level) (defScope s_Database_end_level) .none kV385 dc385 pm385 an385 cd385 ct385), sl385⟩)
    (c385 : PySem.W.codeIn K cd385 "Database.end_level" = true)
    (k385 : PySem.W.keepIn K (.ref f382) = true)
    (q387 : PySem.W.findIn K (.ref C338) "end_transaction" = some (some (.ref f386)))
    (q388 : PySem.W.isFn K (.ref f386) = true)
    (l389 : K.lookup f386 = some ⟨oc389, od389, .func (PySem.W.fnOf "end_transaction" "Database.end_transaction" (defArgs s_Database_end_transaction) (defBody s_Database_end_transaction) (defScope s_Database_end_transaction) .none kV389 dc389 pm389 an389 cd389 ct389), sl389⟩)
    (c389 : PySem.W.codeIn K cd389 "Database.end_transaction" = true)
    (k389 : PySem.W.keepIn K (.ref f386) = true)
    (q391 : PySem.W.findIn K (.ref C338) "leave" = some (some (.ref f390)))
    (q392 : PySem.W.isFn K (.ref f390) = true)
    (l393 : K.lookup f390 = some ⟨oc393, od393, .func (PySem.W.fnOf "leave" "Database.leave" (defArgs s_Database_leave) (defBody s_Database_leave) (defScope s_Database_leave) (.ref T394) (.ref D401) dc393 pm393 an393 cd393 ct393), sl393⟩)
    (c393 : PySem.W.codeIn K cd393 "Database.leave" = true)
    (k393 : PySem.W.keepIn K (.ref f390) = true)
    (lT400 : K.lookup T394 = some ⟨oc395, od396, .seq #[.none] on397, os398⟩)
    (z403 : PySem.W.nsIn K D401 "commits" = some (some (.bool true)))
    (q405 : PySem.W.findIn K (.ref C338) "held_by" = some (some (.ref f404)))
    (q406 : PySem.W.isFn K (.ref f404) = true)
    (l407 : K.lookup f404 = some ⟨oc407, od407, .func (PySem.W.fnOf "held_by" "Database.held_by" (defArgs s_Database_held_by) (defBody s_Database_held_by) (defScope s_Database_held_by) .none kV407 dc407 pm407 an407 cd407 ct407), sl407⟩)
    (c407 : PySem.W.codeIn K cd407 "Database.held_by" = true)
    (k407 : PySem.W.keepIn K (.ref f404) = true)
    (q409 : PySem.W.findIn K (.ref C338) "held_records" = some (some (.ref f408)))
    (q410 : PySem.W.isFn K (.ref f408) = true)
    (l411 : K.lookup f408 = some ⟨oc411, od411, .func (PySem.W.fnOf "held_records" "Database.held_records" (defArgs s_Database_held_records) (defBody s_Database_held_records) (defScope s_Database_held_records) .none kV411 dc411 pm411 an411 cd411 ct411), sl411⟩)
    (c411 : PySem.W.codeIn K cd411 "Database.held_records" = true)
    (k411 : PySem.W.keepIn K (.ref f408) = true)
    (q413 : PySem.W.findIn K (.ref C338) "outer_records" = some (some (.ref f412)))
    (q414 : PySem.W.isFn K (.ref f412) = true)
    (l415 : K.lookup f412 = some ⟨oc415, od415, .func (PySem.W.fnOf "outer_records" "Database.outer_records" (defArgs s_Database_outer_records) (defBody s_Database_outer_records) (defScope s_Database_outer_records) .none kV415 dc415 pm415 an415 cd415 ct415), sl415⟩)
    (c415 : PySem.W.codeIn K cd415 "Database.outer_records" = true)
    (k415 : PySem.W.keepIn K (.ref f412) = true)
    (q417 : PySem.W.findIn K (.ref C338) "would_wait" = some (some (.ref f416)))
    (q418 : PySem.W.isFn K (.ref f416) = true)
    (l419 : K.lookup f416 = some ⟨oc419, od419, .func (PySem.W.fnOf "would_wait" "Database.would_wait" (defArgs s_Database_would_wait) (defBody s_Database_would_wait) (defScope s_Database_would_wait) .none kV419 dc419 pm419 an419 cd419 ct419), sl419⟩)
    (c419 : PySem.W.codeIn K cd419 "Database.would_wait" = true)
    (k419 : PySem.W.keepIn K (.ref f416) = true)
    (q421 : PySem.W.findIn K (.ref C338) "write" = some (some (.ref f420)))
    (q422 : PySem.W.isFn K (.ref f420) = true)
    (l423 : K.lookup f420 = some ⟨oc423, od423, .func (PySem.W.fnOf "write" "Database.write" (defArgs s_Database_write) (defBody s_Database_write) (defScope s_Database_write) .none kV423 dc423 pm423 an423 cd423 ct423), sl423⟩)
    (c423 : PySem.W.codeIn K cd423 "Database.write" = true)
    (k423 : PySem.W.keepIn K (.ref f420) = true)
    (q425 : PySem.W.findIn K (.ref C338) "__setitem__" = some (some (.ref f424)))
    (q426 : PySem.W.isFn K (.ref f424) = true)
    (l427 : K.lookup f424 = some ⟨oc427, od427, .func (PySem.W.fnOf "__setitem__" "Database.__setitem__" (defArgs s_DatabaseU_setitemU) (defBody s_DatabaseU_setitemU) (defScope s_DatabaseU_setitemU) .none kV427 dc427 pm427 an427 cd427 ct427), sl427⟩)
    (c427 : PySem.W.codeIn K cd427 "Database.__setitem__" = true)
    (k427 : PySem.W.keepIn K (.ref f424) = true)
    (q429 : PySem.W.findIn K (.ref C338) "sees" = some (some (.ref f428)))
    (q430 : PySem.W.isFn K (.ref f428) = true)
    (l431 : K.lookup f428 = some ⟨oc431, od431, .func (PySem.W.fnOf "sees" "Database.sees" (defArgs s_Database_sees) (defBody s_Database_sees) (defScope s_Database_sees) .none kV431 dc431 pm431 an431 cd431 ct431), sl431⟩)
    (c431 : PySem.W.codeIn K cd431 "Database.sees" = true)
    (k431 : PySem.W.keepIn K (.ref f428) = true)
    (q433 : PySem.W.findIn K (.ref C338) "__getitem__" = some (some (.ref f432)))
    (q434 : PySem.W.isFn K (.ref f432) = true)
    (l435 : K.lookup f432 = some ⟨oc435, od435, .func (PySem.W.fnOf "__getitem__" "Database.__getitem__" (defArgs s_DatabaseU_getitemU) (defBody s_DatabaseU_getitemU) (defScope s_DatabaseU_getitemU) .none kV435 dc435 pm435 an435 cd435 ct435), sl435⟩)
    (c435 : PySem.W.codeIn K cd435 "Database.__getitem__" = true)
    (k435 : PySem.W.keepIn K (.ref f432) = true)
    (q437 : PySem.W.findIn K (.ref C338) "__contains__" = some (some (.ref f436)))
    (q438 : PySem.W.isFn K (.ref f436) = true)
    (l439 : K.lookup f436 = some ⟨oc439, od439, .func (PySem.W.fnOf "__contains__" "Database.__contains__" (defArgs s_DatabaseU_containsU) (defBody s_DatabaseU_containsU) (defScope s_DatabaseU_containsU) .none kV439 dc439 pm439 an439 cd439 ct439), sl439⟩)
    (c439 : PySem.W.codeIn K cd439 "Database.__contains__" = true)
    (k439 : PySem.W.keepIn K (.ref f436) = true)
    (q441 : PySem.W.findIn K (.ref C338) "kept_values" = some (some (.ref f440)))
    (q442 : PySem.W.isFn K (.ref f440) = true)
    (l443 : K.lookup f440 = some ⟨oc443, od443, .func (PySem.W.fnOf "kept_values" "Database.kept_values" (defArgs s_Database_kept_values) (defBody s_Database_kept_values) (defScope s_Database_kept_values) .none kV443 dc443 pm443 an443 cd443 ct443), sl443⟩)
    (c443 : PySem.W.codeIn K cd443 "Database.kept_values" = true)
    (k443 : PySem.W.keepIn K (.ref f440) = true)
    (q445 : PySem.W.findIn K (.ref C338) "fates" = some (some (.ref f444)))
    (q446 : PySem.W.isFn K (.ref f444) = true)
    (l447 : K.lookup f444 = some ⟨oc447, od447, .func (PySem.W.fnOf "fates" "Database.fates" (defArgs s_Database_fates) (defBody s_Database_fates) (defScope s_Database_fates) .none kV447 dc447 pm447 an447 cd447 ct447), sl447⟩)
    (c447 : PySem.W.codeIn K cd447 "Database.fates" = true)
    (k447 : PySem.W.keepIn K (.ref f444) = true)
    (q451 : PySem.W.findIn K (.ref C338) "is_open" = some (some (.ref p449)))
    (q452 : PySem.W.specialIn K (.ref p449) "__get__" = some (some (.builtin "property.__get__")))
    (q453 : PySem.W.takesIn K (.ref p449) = some true)
    (q454 : PySem.W.recIn K p449 "property" = some (.ref f448 :: rs450))
    (l455 : K.lookup f448 = some ⟨oc455, od455, .func (PySem.W.fnOf "is_open" "Database.is_open" (defArgs s_Database_is_open) (defBody s_Database_is_open) (defScope s_Database_is_open) .none kV455 dc455 pm455 an455 cd455 ct455), sl455⟩)
    (c455 : PySem.W.codeIn K cd455 "Database.is_open" = true)
    (k455 : PySem.W.keepIn K (.ref f448) = true)
    (q459 : PySem.W.findIn K (.ref C338) "is_doomed" = some (some (.ref p457)))
    (q460 : PySem.W.specialIn K (.ref p457) "__get__" = some (some (.builtin "property.__get__")))
    (q461 : PySem.W.takesIn K (.ref p457) = some true)
    (q462 : PySem.W.recIn K p457 "property" = some (.ref f456 :: rs458))
    (l463 : K.lookup f456 = some ⟨oc463, od463, .func (PySem.W.fnOf "is_doomed" "Database.is_doomed" (defArgs s_Database_is_doomed) (defBody s_Database_is_doomed) (defScope s_Database_is_doomed) .none kV463 dc463 pm463 an463 cd463 ct463), sl463⟩)
    (c463 : PySem.W.codeIn K cd463 "Database.is_doomed" = true)
    (k463 : PySem.W.keepIn K (.ref f456) = true)
    (q467 : PySem.W.findIn K (.ref C338) "reason" = some (some (.ref p465)))
    (q468 : PySem.W.specialIn K (.ref p465) "__get__" = some (some (.builtin "property.__get__")))
    (q469 : PySem.W.takesIn K (.ref p465) = some true)
    (q470 : PySem.W.recIn K p465 "property" = some (.ref f464 :: rs466))
    (l471 : K.lookup f464 = some ⟨oc471, od471, .func (PySem.W.fnOf "reason" "Database.reason" (defArgs s_Database_reason) (defBody s_Database_reason) (defScope s_Database_reason) .none kV471 dc471 pm471 an471 cd471 ct471), sl471⟩)
    (c471 : PySem.W.codeIn K cd471 "Database.reason" = true)
    (k471 : PySem.W.keepIn K (.ref f464) = true)
    (q475 : PySem.W.findIn K (.ref C338) "levels" = some (some (.ref p473)))
    (q476 : PySem.W.specialIn K (.ref p473) "__get__" = some (some (.builtin "property.__get__")))
    (q477 : PySem.W.takesIn K (.ref p473) = some true)
    (q478 : PySem.W.recIn K p473 "property" = some (.ref f472 :: rs474))
    (l479 : K.lookup f472 = some ⟨oc479, od479, .func (PySem.W.fnOf "levels" "Database.levels" (defArgs s_Database_levels) (defBody s_Database_levels) (defScope s_Database_levels) .none kV479 dc479 pm479 an479 cd479 ct479), sl479⟩)
    (c479 : PySem.W.codeIn K cd479 "Database.levels" = true)
    (k479 : PySem.W.keepIn K (.ref f472) = true)
    (q483 : PySem.W.findIn K (.ref C338) "depth" = some (some (.ref p481)))
    (q484 : PySem.W.specialIn K (.ref p481) "__get__" = some (some (.builtin "property.__get__")))
    (q485 : PySem.W.takesIn K (.ref p481) = some true)
    (q486 : PySem.W.recIn K p481 "property" = some (.ref f480 :: rs482))
    (l487 : K.lookup f480 = some ⟨oc487, od487, .func (PySem.W.fnOf "depth" "Database.depth" (defArgs s_Database_depth) (defBody s_Database_depth) (defScope s_Database_depth) .none kV487 dc487 pm487 an487 cd487 ct487), sl487⟩)
    (c487 : PySem.W.codeIn K cd487 "Database.depth" = true)
    (k487 : PySem.W.keepIn K (.ref f480) = true)
    (z488 : PySem.W.noSeq K C338 = true)
    (a490 : PySem.W.nsIn K mainGlobals "_law_pool" = some (some (.ref f489)))
    (l491 : K.lookup f489 = some ⟨oc491, od491, .func (PySem.W.fnOf "_law_pool" "_law_pool" (defArgs s_law_pool) (defBody s_law_pool) (defScope s_law_pool) .none kV491 dc491 pm491 an491 cd491 ct491), sl491⟩)
    (c491 : PySem.W.codeIn K cd491 "_law_pool" = true)
    (k491 : PySem.W.keepIn K (.ref f489) = true)
    (a493 : PySem.W.nsIn K mainGlobals "_law_draw" = some (some (.ref f492)))
    (l494 : K.lookup f492 = some ⟨oc494, od494, .func (PySem.W.fnOf "_law_draw" "_law_draw" (defArgs s_law_draw) (defBody s_law_draw) (defScope s_law_draw) .none kV494 dc494 pm494 an494 cd494 ct494), sl494⟩)
    (c494 : PySem.W.codeIn K cd494 "_law_draw" = true)
    (k494 : PySem.W.keepIn K (.ref f492) = true)
    (a496 : PySem.W.nsIn K mainGlobals "_law_word" = some (some (.ref f495)))
    (l497 : K.lookup f495 = some ⟨oc497, od497, .func (PySem.W.fnOf "_law_word" "_law_word" (defArgs s_law_word) (defBody s_law_word) (defScope s_law_word) .none kV497 dc497 pm497 an497 cd497 ct497), sl497⟩)
    (c497 : PySem.W.codeIn K cd497 "_law_word" = true)
    (k497 : PySem.W.keepIn K (.ref f495) = true)
    (a499 : PySem.W.nsIn K mainGlobals "_law_seen" = some (some (.ref f498)))
    (l500 : K.lookup f498 = some ⟨oc500, od500, .func (PySem.W.fnOf "_law_seen" "_law_seen" (defArgs s_law_seen) (defBody s_law_seen) (defScope s_law_seen) .none kV500 dc500 pm500 an500 cd500 ct500), sl500⟩)
    (c500 : PySem.W.codeIn K cd500 "_law_seen" = true)
    (k500 : PySem.W.keepIn K (.ref f498) = true)
    (a502 : PySem.W.nsIn K mainGlobals "_law_single" = some (some (.ref f501)))
    (l503 : K.lookup f501 = some ⟨oc503, od503, .func (PySem.W.fnOf "_law_single" "_law_single" (defArgs s_law_single) (defBody s_law_single) (defScope s_law_single) .none kV503 dc503 pm503 an503 cd503 ct503), sl503⟩)
    (c503 : PySem.W.codeIn K cd503 "_law_single" = true)
    (k503 : PySem.W.keepIn K (.ref f501) = true)
    (a505 : PySem.W.nsIn K mainGlobals "_law_enter" = some (some (.ref f504)))
    (l506 : K.lookup f504 = some ⟨oc506, od506, .func (PySem.W.fnOf "_law_enter" "_law_enter" (defArgs s_law_enter) (defBody s_law_enter) (defScope s_law_enter) .none kV506 dc506 pm506 an506 cd506 ct506), sl506⟩)
    (c506 : PySem.W.codeIn K cd506 "_law_enter" = true)
    (k506 : PySem.W.keepIn K (.ref f504) = true)
    (a508 : PySem.W.nsIn K mainGlobals "_law_other" = some (some (.ref f507)))
    (l509 : K.lookup f507 = some ⟨oc509, od509, .func (PySem.W.fnOf "_law_other" "_law_other" (defArgs s_law_other) (defBody s_law_other) (defScope s_law_other) .none kV509 dc509 pm509 an509 cd509 ct509), sl509⟩)
    (c509 : PySem.W.codeIn K cd509 "_law_other" = true)
    (k509 : PySem.W.keepIn K (.ref f507) = true)
    (a511 : PySem.W.nsIn K mainGlobals "_law_built" = some (some (.ref f510)))
    (l512 : K.lookup f510 = some ⟨oc512, od512, .func (PySem.W.fnOf "_law_built" "_law_built" (defArgs s_law_built) (defBody s_law_built) (defScope s_law_built) .none kV512 dc512 pm512 an512 cd512 ct512), sl512⟩)
    (c512 : PySem.W.codeIn K cd512 "_law_built" = true)
    (k512 : PySem.W.keepIn K (.ref f510) = true)
    (a514 : PySem.W.nsIn K mainGlobals "_law_wrong" = some (some (.ref f513)))
    (l515 : K.lookup f513 = some ⟨oc515, od515, .func (PySem.W.fnOf "_law_wrong" "_law_wrong" (defArgs s_law_wrong) (defBody s_law_wrong) (defScope s_law_wrong) .none kV515 dc515 pm515 an515 cd515 ct515), sl515⟩)
    (c515 : PySem.W.codeIn K cd515 "_law_wrong" = true)
    (k515 : PySem.W.keepIn K (.ref f513) = true)
    (l516 : K.lookup fa = some ⟨oc516, od516, .func (PySem.W.fnOf "law" "law" (defArgs s_law) (defBody s_law) (defScope s_law) .none kV516 dc516 pm516 an516 cd516 ct516), sl516⟩)
    (c516 : PySem.W.codeIn K cd516 "law" = true)
    (k516 : PySem.W.keepIn K (.ref fa) = true)
    (z517 : PySem.W.nsIn K mainGlobals "isinstance" = some none)
    (z518 : PySem.W.nsIn K mainGlobals "str" = some none)
    (z519 : PySem.W.nsIn K mainGlobals "len" = some none)
    (z520 : PySem.W.nsIn K mainGlobals "super" = some none)
    (z521 : PySem.W.nsIn K mainGlobals "sorted" = some none)
    (z522 : PySem.W.nsIn K mainGlobals "abs" = some none)
    (z523 : PySem.W.nsIn K mainGlobals "int" = some none)
    (z524 : PySem.W.nsIn K mainGlobals "range" = some none)
    (z525 : PySem.W.nsIn K mainGlobals "repr" = some none)
    (z526 : PySem.W.nsIn K mainGlobals "list" = some none)
    (z527 : PySem.W.nsIn K mainGlobals "sum" = some none)
    (z528 : PySem.W.nsIn K mainGlobals "ValueError" = some none)
    (z529 : PySem.W.nsIn K mainGlobals "max" = some none)
    (z530 : PySem.W.nsIn K mainGlobals "min" = some none)
    (z531 : PySem.W.fnIn K f432 = true)
    (a538 : PySem.W.nsIn K mainGlobals "InnercommitsError" = some (some (.ref C537)))
    (z532 : kitAll K [C248, C223, C97, C45, C148, C198, C71, C273, C123, C172] = true)
    (z533 : kitBase K C537 [C248, C223, C97, C45, C148, C198, C71, C273, C123, C172] = true)
    (z534 : exkAll K [C248, C223, C97, C45, C148, C198, C71, C273, C123, C172] = true)
    (z535 : PySem.W.specialIn K (.builtin "object.__class__") "__get__" = some (some (.builtin "getset_descriptor.__get__")))
    (z536 : PySem.W.takesIn K (.builtin "object.__class__") = some true)
    : ∃ fd : FuncData, (∀ (s : Shared) (v : Value), BindsTo s fd ⟨[v], []⟩ [("_law_script", v)]) ∧ ∀ base : Heap, K.In base → base.Ns mainGlobals mg → FnG P w K mg base CX0 9 fa fd ["_law_script"] (spLaw K) := by
  have F40 := fun_mk (st := s_Mode_is_mode) l40 c40 k40
  have b40 := F40.binds (ps := ["thing"]) fun _ _ _ _ _ _ us hl => match us, hl with | [_], _ => rfl
  have F43 := fun_mk (st := s_is_word) l43 c43 k43
  have b43 := F43.binds (ps := ["thing"]) fun _ _ _ _ _ _ us hl => match us, hl with | [_], _ => rfl
  have F323 := fun_mk (st := s_WriteU_initU) l323 c323 k323
  have b323 := F323.binds (ps := ["self", "record", "value", "fate", "holder", "level"]) fun _ _ _ _ _ _ us hl => match us, hl with | [_, _, _, _, _, _], _ => rfl
  have F337 := fun_mk (st := s_TransactionU_initU) l337 c337 k337
  have b337 := F337.binds (ps := ["self", "number"]) fun _ _ _ _ _ _ us hl => match us, hl with | [_, _], _ => rfl
  have F354 := fun_mk (st := s_DatabaseU_initU) l354 c354 k354
  have b354 := F354.binds (ps := ["self"]) fun _ _ _ _ _ _ us hl => match us, hl with | [_], _ => rfl
  have F358 := fun_mk (st := s_Database_begin) l358 c358 k358
  have b358 := F358.binds (ps := ["self"]) fun _ _ _ _ _ _ us hl => match us, hl with | [_], _ => rfl
  have F362 := fun_mk (st := s_Database_enter_alone) l362 c362 k362
  have b362 := F362.binds (ps := ["self", "mode"]) fun _ _ _ _ _ _ us hl => match us, hl with | [_, _], _ => rfl
  have F366 := fun_mk (st := s_Database_enter_inside) l366 c366 k366
  have b366 := F366.binds (ps := ["self", "mode", "present"]) fun _ _ _ _ _ _ us hl => match us, hl with | [_, _, _], _ => rfl
  have F370 := fun_mk (st := s_Database_enter) l370 c370 k370
  have b370 := F370.binds (ps := ["self", "mode"]) fun _ _ _ _ _ _ us hl => match us, hl with | [_, _], _ => rfl
  have F374 : FunD K "doom" "Database.doom" (defArgs s_Database_doom) (defBody s_Database_doom) (defScope s_Database_doom) [.str "doom"] []  f371 (PySem.W.fnOf "doom" "Database.doom" (defArgs s_Database_doom) (defBody s_Database_doom) (defScope s_Database_doom) (.ref T375) kV374 dc374 pm374 an374 cd374 ct374) := ⟨⟨_, _, _, _, _, _, _, _, _, _, rfl, l374, c374, .inr ⟨by decide, _, _, _, _, rfl, lT381, rfl, (.cons ⟨_, rfl⟩ .nil)⟩, .inl rfl⟩, k374⟩
  have F385 := fun_mk (st := s_Database_end_level) l385 c385 k385
  have b385 := F385.binds (ps := ["self", "error"]) fun _ _ _ _ _ _ us hl => match us, hl with | [_, _], _ => rfl
  have F389 := fun_mk (st := s_Database_end_transaction) l389 c389 k389
  have b389 := F389.binds (ps := ["self", "error", "commits"]) fun _ _ _ _ _ _ us hl => match us, hl with | [_, _, _], _ => rfl
  have F393 : FunD K "leave" "Database.leave" (defArgs s_Database_leave) (defBody s_Database_leave) (defScope s_Database_leave) [.non] [("commits", .bl true)]  f390 (PySem.W.fnOf "leave" "Database.leave" (defArgs s_Database_leave) (defBody s_Database_leave) (defScope s_Database_leave) (.ref T394) (.ref D401) dc393 pm393 an393 cd393 ct393) := ⟨⟨_, _, _, _, _, _, _, _, _, _, rfl, l393, c393, .inr ⟨by decide, _, _, _, _, rfl, lT400, rfl, (.cons rfl .nil)⟩, .inr ⟨_, rfl, fun q hq => by
      rcases List.mem_cons.mp hq with rfl | hq
      · exact ⟨_, z403, rfl⟩
      · exact absurd hq (by simp)⟩⟩, k393⟩
  have F407 := fun_mk (st := s_Database_held_by) l407 c407 k407
  have b407 := F407.binds (ps := ["self", "numbers"]) fun _ _ _ _ _ _ us hl => match us, hl with | [_, _], _ => rfl
  have F411 := fun_mk (st := s_Database_held_records) l411 c411 k411
  have b411 := F411.binds (ps := ["self"]) fun _ _ _ _ _ _ us hl => match us, hl with | [_], _ => rfl
  have F415 := fun_mk (st := s_Database_outer_records) l415 c415 k415
  have b415 := F415.binds (ps := ["self"]) fun _ _ _ _ _ _ us hl => match us, hl with | [_], _ => rfl
  have F419 := fun_mk (st := s_Database_would_wait) l419 c419 k419
  have b419 := F419.binds (ps := ["self", "record"]) fun _ _ _ _ _ _ us hl => match us, hl with | [_, _], _ => rfl
  have F423 := fun_mk (st := s_Database_write) l423 c423 k423
  have b423 := F423.binds (ps := ["self", "record", "value"]) fun _ _ _ _ _ _ us hl => match us, hl with | [_, _, _], _ => rfl
  have F427 := fun_mk (st := s_DatabaseU_setitemU) l427 c427 k427
  have b427 := F427.binds (ps := ["self", "record", "value"]) fun _ _ _ _ _ _ us hl => match us, hl with | [_, _, _], _ => rfl
  have F431 := fun_mk (st := s_Database_sees) l431 c431 k431
  have b431 := F431.binds (ps := ["self", "row"]) fun _ _ _ _ _ _ us hl => match us, hl with | [_, _], _ => rfl
  have F435 := fun_mk (st := s_DatabaseU_getitemU) l435 c435 k435
  have b435 := F435.binds (ps := ["self", "record"]) fun _ _ _ _ _ _ us hl => match us, hl with | [_, _], _ => rfl
  have F439 := fun_mk (st := s_DatabaseU_containsU) l439 c439 k439
  have b439 := F439.binds (ps := ["self", "record"]) fun _ _ _ _ _ _ us hl => match us, hl with | [_, _], _ => rfl
  have F443 := fun_mk (st := s_Database_kept_values) l443 c443 k443
  have b443 := F443.binds (ps := ["self"]) fun _ _ _ _ _ _ us hl => match us, hl with | [_], _ => rfl
  have F447 := fun_mk (st := s_Database_fates) l447 c447 k447
  have b447 := F447.binds (ps := ["self"]) fun _ _ _ _ _ _ us hl => match us, hl with | [_], _ => rfl
  have F455 := fun_mk (st := s_Database_is_open) l455 c455 k455
  have b455 := F455.binds (ps := ["self"]) fun _ _ _ _ _ _ us hl => match us, hl with | [_], _ => rfl
  have F463 := fun_mk (st := s_Database_is_doomed) l463 c463 k463
  have b463 := F463.binds (ps := ["self"]) fun _ _ _ _ _ _ us hl => match us, hl with | [_], _ => rfl
  have F471 := fun_mk (st := s_Database_reason) l471 c471 k471
  have b471 := F471.binds (ps := ["self"]) fun _ _ _ _ _ _ us hl => match us, hl with | [_], _ => rfl
  have F479 := fun_mk (st := s_Database_levels) l479 c479 k479
  have b479 := F479.binds (ps := ["self"]) fun _ _ _ _ _ _ us hl => match us, hl with | [_], _ => rfl
  have F487 := fun_mk (st := s_Database_depth) l487 c487 k487
  have b487 := F487.binds (ps := ["self"]) fun _ _ _ _ _ _ us hl => match us, hl with | [_], _ => rfl
  have F491 := fun_mk (st := s_law_pool) l491 c491 k491
  have b491 := F491.binds (ps := ["_law_script", "_law_at"]) fun _ _ _ _ _ _ us hl => match us, hl with | [_, _], _ => rfl
  have F494 := fun_mk (st := s_law_draw) l494 c494 k494
  have b494 := F494.binds (ps := ["_law_pool_here", "_law_many"]) fun _ _ _ _ _ _ us hl => match us, hl with | [_, _], _ => rfl
  have F497 := fun_mk (st := s_law_word) l497 c497 k497
  have b497 := F497.binds (ps := ["_law_pool_here"]) fun _ _ _ _ _ _ us hl => match us, hl with | [_], _ => rfl
  have F500 := fun_mk (st := s_law_seen) l500 c500 k500
  have b500 := F500.binds (ps := ["_law_db"]) fun _ _ _ _ _ _ us hl => match us, hl with | [_], _ => rfl
  have F503 := fun_mk (st := s_law_single) l503 c503 k503
  have b503 := F503.binds (ps := ["_law_e"]) fun _ _ _ _ _ _ us hl => match us, hl with | [_], _ => rfl
  have F506 := fun_mk (st := s_law_enter) l506 c506 k506
  have b506 := F506.binds (ps := ["_law_db", "_law_mode"]) fun _ _ _ _ _ _ us hl => match us, hl with | [_, _], _ => rfl
  have F509 := fun_mk (st := s_law_other) l509 c509 k509
  have b509 := F509.binds (ps := ["_law_db", "_law_sort", "_law_thing"]) fun _ _ _ _ _ _ us hl => match us, hl with | [_, _, _], _ => rfl
  have F512 := fun_mk (st := s_law_built) l512 c512 k512
  have b512 := F512.binds (ps := ["_law_pool_here"]) fun _ _ _ _ _ _ us hl => match us, hl with | [_], _ => rfl
  have F515 := fun_mk (st := s_law_wrong) l515 c515 k515
  have b515 := F515.binds (ps := ["_law_pool_here"]) fun _ _ _ _ _ _ us hl => match us, hl with | [_], _ => rfl
  have F516 := fun_mk (st := s_law) l516 c516 k516
  have b516 := F516.binds (ps := ["_law_script"]) fun _ _ _ _ _ _ us hl => match us, hl with | [_], _ => rfl
  have T : Txt K mg ⟨C1, p22, f35, p36, f41, C45, f47, C71, f73, C97, f99, C123, f125, C148, f150, C172, f174, C198, f200, C223, f225, C248, f250, C273, f275, C307, f318, C324, f332, C338, f349, f355, f359, f363, f367, f371, f382, f386, f390, f404, f408, f412, f416, f420, f424, f428, f432, f436, f440, f444, f448, p449, f456, p457, f464, p465, f472, p473, f480, p481, f489, f492, f495, f498, f501, f504, f507, f510, f513, fa, C537⟩ ⟨PySem.W.fnOf "is_mode" "Mode.is_mode" (defArgs s_Mode_is_mode) (defBody s_Mode_is_mode) (defScope s_Mode_is_mode) .none kV40 dc40 pm40 an40 cd40 ct40, PySem.W.fnOf "is_word" "is_word" (defArgs s_is_word) (defBody s_is_word) (defScope s_is_word) .none kV43 dc43 pm43 an43 cd43 ct43, PySem.W.fnOf "__init__" "Write.__init__" (defArgs s_WriteU_initU) (defBody s_WriteU_initU) (defScope s_WriteU_initU) .none kV323 dc323 pm323 an323 cd323 ct323, PySem.W.fnOf "__init__" "Transaction.__init__" (defArgs s_TransactionU_initU) (defBody s_TransactionU_initU) (defScope s_TransactionU_initU) .none kV337 dc337 pm337 an337 cd337 ct337, PySem.W.fnOf "__init__" "Database.__init__" (defArgs s_DatabaseU_initU) (defBody s_DatabaseU_initU) (defScope s_DatabaseU_initU) .none kV354 dc354 pm354 an354 cd354 ct354, PySem.W.fnOf "begin" "Database.begin" (defArgs s_Database_begin) (defBody s_Database_begin) (defScope s_Database_begin) .none kV358 dc358 pm358 an358 cd358 ct358, PySem.W.fnOf "enter_alone" "Database.enter_alone" (defArgs s_Database_enter_alone) (defBody s_Database_enter_alone) (defScope s_Database_enter_alone) .none kV362 dc362 pm362 an362 cd362 ct362, PySem.W.fnOf "enter_inside" "Database.enter_inside" (defArgs s_Database_enter_inside) (defBody s_Database_enter_inside) (defScope s_Database_enter_inside) .none kV366 dc366 pm366 an366 cd366 ct366, PySem.W.fnOf "enter" "Database.enter" (defArgs s_Database_enter) (defBody s_Database_enter) (defScope s_Database_enter) .none kV370 dc370 pm370 an370 cd370 ct370, PySem.W.fnOf "doom" "Database.doom" (defArgs s_Database_doom) (defBody s_Database_doom) (defScope s_Database_doom) (.ref T375) kV374 dc374 pm374 an374 cd374 ct374, PySem.W.fnOf "end_level" "Database.end_level" (defArgs s_Database_end_level) (defBody s_Database_end_level) (defScope s_Database_end_level) .none kV385 dc385 pm385 an385 cd385 ct385, PySem.W.fnOf "end_transaction" "Database.end_transaction" (defArgs s_Database_end_transaction) (defBody s_Database_end_transaction) (defScope s_Database_end_transaction) .none kV389 dc389 pm389 an389 cd389 ct389, PySem.W.fnOf "leave" "Database.leave" (defArgs s_Database_leave) (defBody s_Database_leave) (defScope s_Database_leave) (.ref T394) (.ref D401) dc393 pm393 an393 cd393 ct393, PySem.W.fnOf "held_by" "Database.held_by" (defArgs s_Database_held_by) (defBody s_Database_held_by) (defScope s_Database_held_by) .none kV407 dc407 pm407 an407 cd407 ct407, PySem.W.fnOf "held_records" "Database.held_records" (defArgs s_Database_held_records) (defBody s_Database_held_records) (defScope s_Database_held_records) .none kV411 dc411 pm411 an411 cd411 ct411, PySem.W.fnOf "outer_records" "Database.outer_records" (defArgs s_Database_outer_records) (defBody s_Database_outer_records) (defScope s_Database_outer_records) .none kV415 dc415 pm415 an415 cd415 ct415, PySem.W.fnOf "would_wait" "Database.would_wait" (defArgs s_Database_would_wait) (defBody s_Database_would_wait) (defScope s_Database_would_wait) .none kV419 dc419 pm419 an419 cd419 ct419, PySem.W.fnOf "write" "Database.write" (defArgs s_Database_write) (defBody s_Database_write) (defScope s_Database_write) .none kV423 dc423 pm423 an423 cd423 ct423, PySem.W.fnOf "__setitem__" "Database.__setitem__" (defArgs s_DatabaseU_setitemU) (defBody s_DatabaseU_setitemU) (defScope s_DatabaseU_setitemU) .none kV427 dc427 pm427 an427 cd427 ct427, PySem.W.fnOf "sees" "Database.sees" (defArgs s_Database_sees) (defBody s_Database_sees) (defScope s_Database_sees) .none kV431 dc431 pm431 an431 cd431 ct431, PySem.W.fnOf "__getitem__" "Database.__getitem__" (defArgs s_DatabaseU_getitemU) (defBody s_DatabaseU_getitemU) (defScope s_DatabaseU_getitemU) .none kV435 dc435 pm435 an435 cd435 ct435, PySem.W.fnOf "__contains__" "Database.__contains__" (defArgs s_DatabaseU_containsU) (defBody s_DatabaseU_containsU) (defScope s_DatabaseU_containsU) .none kV439 dc439 pm439 an439 cd439 ct439, PySem.W.fnOf "kept_values" "Database.kept_values" (defArgs s_Database_kept_values) (defBody s_Database_kept_values) (defScope s_Database_kept_values) .none kV443 dc443 pm443 an443 cd443 ct443, PySem.W.fnOf "fates" "Database.fates" (defArgs s_Database_fates) (defBody s_Database_fates) (defScope s_Database_fates) .none kV447 dc447 pm447 an447 cd447 ct447, PySem.W.fnOf "is_open" "Database.is_open" (defArgs s_Database_is_open) (defBody s_Database_is_open) (defScope s_Database_is_open) .none kV455 dc455 pm455 an455 cd455 ct455, PySem.W.fnOf "is_doomed" "Database.is_doomed" (defArgs s_Database_is_doomed) (defBody s_Database_is_doomed) (defScope s_Database_is_doomed) .none kV463 dc463 pm463 an463 cd463 ct463, PySem.W.fnOf "reason" "Database.reason" (defArgs s_Database_reason) (defBody s_Database_reason) (defScope s_Database_reason) .none kV471 dc471 pm471 an471 cd471 ct471, PySem.W.fnOf "levels" "Database.levels" (defArgs s_Database_levels) (defBody s_Database_levels) (defScope s_Database_levels) .none kV479 dc479 pm479 an479 cd479 ct479, PySem.W.fnOf "depth" "Database.depth" (defArgs s_Database_depth) (defBody s_Database_depth) (defScope s_Database_depth) .none kV487 dc487 pm487 an487 cd487 ct487, PySem.W.fnOf "_law_pool" "_law_pool" (defArgs s_law_pool) (defBody s_law_pool) (defScope s_law_pool) .none kV491 dc491 pm491 an491 cd491 ct491, PySem.W.fnOf "_law_draw" "_law_draw" (defArgs s_law_draw) (defBody s_law_draw) (defScope s_law_draw) .none kV494 dc494 pm494 an494 cd494 ct494, PySem.W.fnOf "_law_word" "_law_word" (defArgs s_law_word) (defBody s_law_word) (defScope s_law_word) .none kV497 dc497 pm497 an497 cd497 ct497, PySem.W.fnOf "_law_seen" "_law_seen" (defArgs s_law_seen) (defBody s_law_seen) (defScope s_law_seen) .none kV500 dc500 pm500 an500 cd500 ct500, PySem.W.fnOf "_law_single" "_law_single" (defArgs s_law_single) (defBody s_law_single) (defScope s_law_single) .none kV503 dc503 pm503 an503 cd503 ct503, PySem.W.fnOf "_law_enter" "_law_enter" (defArgs s_law_enter) (defBody s_law_enter) (defScope s_law_enter) .none kV506 dc506 pm506 an506 cd506 ct506, PySem.W.fnOf "_law_other" "_law_other" (defArgs s_law_other) (defBody s_law_other) (defScope s_law_other) .none kV509 dc509 pm509 an509 cd509 ct509, PySem.W.fnOf "_law_built" "_law_built" (defArgs s_law_built) (defBody s_law_built) (defScope s_law_built) .none kV512 dc512 pm512 an512 cd512 ct512, PySem.W.fnOf "_law_wrong" "_law_wrong" (defArgs s_law_wrong) (defBody s_law_wrong) (defScope s_law_wrong) .none kV515 dc515 pm515 an515 cd515 ct515, PySem.W.fnOf "law" "law" (defArgs s_law) (defBody s_law) (defScope s_law) .none kV516 dc516 pm516 an516 cd516 ct516⟩ := ⟨PySem.W.mg_of X G a2, ⟨r3, s4⟩, ⟨_, z5, ⟨_, rfl⟩⟩, ⟨_, z7, ⟨_, rfl⟩⟩, ⟨_, z9, ⟨_, rfl⟩⟩, ⟨_, z11, ⟨_, rfl⟩⟩, ⟨_, z13, ⟨_, rfl⟩⟩, ⟨_, z15, ⟨_, rfl⟩⟩, ⟨_, z17, ⟨_, rfl⟩⟩, ⟨_, z19, ⟨_, rfl⟩⟩, ⟨_, z21, rfl⟩, fun H => .inr ⟨_, _, _, l23, rfl, rfl, sz_le rfl, (.cons ⟨_, rfl⟩ (.cons ⟨_, rfl⟩ (.cons ⟨_, rfl⟩ (.cons ⟨_, rfl⟩ (.cons ⟨_, rfl⟩ (.cons ⟨_, rfl⟩ (.cons ⟨_, rfl⟩ (.cons ⟨_, rfl⟩ .nil))))))))⟩, ⟨_, l23, rfl⟩, F40, b40, ⟨z37, _, r38⟩, F43, b43, PySem.W.mg_of X G a42, PySem.W.mg_of X G a46, ec_Missing e49 e50 e51 e52 e53 e54 e55 e56 e57 e58 e59 e60 e61 e62 e63 z44 e64 e65 e66 e67 e68 e69 e70, PySem.W.mg_of X G a72, ec_Present e75 e76 e77 e78 e79 e80 e81 e82 e83 e84 e85 e86 e87 e88 e89 z44 e90 e91 e92 e93 e94 e95 e96, PySem.W.mg_of X G a98, ec_Doomed e101 e102 e103 e104 e105 e106 e107 e108 e109 e110 e111 e112 e113 e114 e115 z44 e116 e117 e118 e119 e120 e121 e122, PySem.W.mg_of X G a124, ec_Refused e127 e128 e129 e130 e131 e132 e133 e134 e135 e136 e137 e138 e139 e140 e141 z44 e142 e143 e144 e145 e146 e147, PySem.W.mg_of X G a149, ec_NoBlock e152 e153 e154 e155 e156 e157 e158 e159 e160 e161 e162 e163 e164 e165 e166 z44 e167 e168 e169 e170 e171 , PySem.W.mg_of X G a173, ec_Waits e176 e177 e178 e179 e180 e181 e182 e183 e184 e185 e186 e187 e188 e189 e190 z44 e191 e192 e193 e194 e195 e196 e197, PySem.W.mg_of X G a199, ec_NoRecord e202 e203 e204 e205 e206 e207 e208 e209 e210 e211 e212 e213 e214 e215 e216 z44 e217 e218 e219 e220 e221 e222, PySem.W.mg_of X G a224, ec_BadWord e227 e228 e229 e230 e231 e232 e233 e234 e235 e236 e237 e238 e239 e240 e241 z44 e242 e243 e244 e245 e246 e247, PySem.W.mg_of X G a249, ec_BadMode e252 e253 e254 e255 e256 e257 e258 e259 e260 e261 e262 e263 e264 e265 e266 z44 e267 e268 e269 e270 e271 e272, PySem.W.mg_of X G a274, ec_Failed e277 e278 e279 e280 e281 e282 e283 e284 e285 e286 e287 e288 e289 e290 e291 z44 e292 e293 e294 e295 e296 e297, z298, z299, z300, z301, z302, z303, z304, z305, z306, PySem.W.mg_of X G a308, ⟨q309, q310, q311, q312⟩, z313, z314, z315, z316, z317, F323, b323, ⟨q319, q320, q321, q322⟩, PySem.W.mg_of X G a325, ⟨q326, q327, q328, q329⟩, z330, z331, F337, b337, ⟨q333, q334, q335, q336⟩, PySem.W.mg_of X G a339, ⟨q340, q341, q342, q343⟩, z344, z345, z346, z347, z348, F354, b354, ⟨q350, q351, q352, q353⟩, F358, b358, ⟨q356, q357, k358⟩, F362, b362, ⟨q360, q361, k362⟩, F366, b366, ⟨q364, q365, k366⟩, F370, b370, ⟨q368, q369, k370⟩, F374, ⟨q372, q373, k374⟩, F385, b385, ⟨q383, q384, k385⟩, F389, b389, ⟨q387, q388, k389⟩, F393, ⟨q391, q392, k393⟩, F407, b407, ⟨q405, q406, k407⟩, F411, b411, ⟨q409, q410, k411⟩, F415, b415, ⟨q413, q414, k415⟩, F419, b419, ⟨q417, q418, k419⟩, F423, b423, ⟨q421, q422, k423⟩, F427, b427, ⟨q425, q426, k427⟩, F431, b431, ⟨q429, q430, k431⟩, F435, b435, ⟨q433, q434, k435⟩, F439, b439, ⟨q437, q438, k439⟩, F443, b443, ⟨q441, q442, k443⟩, F447, b447, ⟨q445, q446, k447⟩, F455, b455, ⟨q451, q452, q453, _, q454⟩, F463, b463, ⟨q459, q460, q461, _, q462⟩, F471, b471, ⟨q467, q468, q469, _, q470⟩, F479, b479, ⟨q475, q476, q477, _, q478⟩, F487, b487, ⟨q483, q484, q485, _, q486⟩, z488, F491, b491, PySem.W.mg_of X G a490, F494, b494, PySem.W.mg_of X G a493, F497, b497, PySem.W.mg_of X G a496, F500, b500, PySem.W.mg_of X G a499, F503, b503, PySem.W.mg_of X G a502, F506, b506, PySem.W.mg_of X G a505, F509, b509, PySem.W.mg_of X G a508, F512, b512, PySem.W.mg_of X G a511, F515, b515, PySem.W.mg_of X G a514, F516, b516, hfa, PySem.W.mg_none_of X G z517, PySem.W.mg_none_of X G z518, PySem.W.mg_none_of X G z519, PySem.W.mg_none_of X G z520, PySem.W.mg_none_of X G z521, PySem.W.mg_none_of X G z522, PySem.W.mg_none_of X G z523, PySem.W.mg_none_of X G z524, PySem.W.mg_none_of X G z525, PySem.W.mg_none_of X G z526, PySem.W.mg_none_of X G z527, PySem.W.mg_none_of X G z528, PySem.W.mg_none_of X G z529, PySem.W.mg_none_of X G z530, z531, PySem.W.mg_of X G a538, z532, z533, z534, z535, z536⟩
  exact ⟨_, fun s v => .of_eq rfl, fun base _ _ => ok_law T⟩
theorem all_mk' {w : World} {K : PySem.W.Frag} {h : Heap} {mg : Str → Option Value} {fa f0 : Addr} (X : K.In h) (G : h.Ns mainGlobals mg) (hfa0 : mg "law" = some (.ref fa))
    {C1 : Addr}
    {t6 : Tok}
    {t8 : Tok}
    {t10 : Tok}
    {t12 : Tok}
    {t14 : Tok}
    {t16 : Tok}
    {t18 : Tok}
    {t20 : Tok}
    {t24 t25 t26 t27 t28 t29 t30 t31 : Tok} {p22 : Addr} {dd32 : Option Addr} {nn33 : Nat} {sl34 : Array (Option Value)}
    {f35 p36 : Addr} {rs39 : List Value}
    {od40 an40 : Option Addr} {sl40 : Array (Option Value)} {oc40 kV40 dc40 pm40 cd40 ct40 : Value}
    {f41 : Addr}
    {od43 an43 : Option Addr} {sl43 : Array (Option Value)} {oc43 kV43 dc43 pm43 cd43 ct43 : Value}
    {C45 : Addr}
    {f47 : Addr} {nm48 qn48 : Str} {N48 : Addr} {bs48 bm48 : List Value} {sn48 : List Str} {sub48 : List Value} {ab48 : Bool} {col48 : Option Bool} {dd48 : Option Addr} {k048 k148 k248 k348 k548 : Option Value}
    {oc48 : Value} {od48 : Option Addr} {doc48 pm48 : Value} {an48 : Option Addr} {cda48 cc48 : Addr} {ct48 : Value} {osl48 : Array (Option Value)} {ccl48 : Value} {cdd48 : Option Addr} {vs48 : Array Value} {ccs48 : Array (Option Value)} {tf48 : Tok} {cl48 : Value} {cld48 : Option Addr} {csl48 : Array (Option Value)}
    {C71 : Addr}
    {f73 : Addr} {nm74 qn74 : Str} {N74 : Addr} {bs74 bm74 : List Value} {sn74 : List Str} {sub74 : List Value} {ab74 : Bool} {col74 : Option Bool} {dd74 : Option Addr} {k074 k174 k274 k374 k574 : Option Value}
    {oc74 : Value} {od74 : Option Addr} {doc74 pm74 : Value} {an74 : Option Addr} {cda74 cc74 : Addr} {ct74 : Value} {osl74 : Array (Option Value)} {ccl74 : Value} {cdd74 : Option Addr} {vs74 : Array Value} {ccs74 : Array (Option Value)} {tf74 : Tok} {cl74 : Value} {cld74 : Option Addr} {csl74 : Array (Option Value)}
    {C97 : Addr}
    {f99 : Addr} {nm100 qn100 : Str} {N100 : Addr} {bs100 bm100 : List Value} {sn100 : List Str} {sub100 : List Value} {ab100 : Bool} {col100 : Option Bool} {dd100 : Option Addr} {k0100 k1100 k2100 k3100 k5100 : Option Value}
    {oc100 : Value} {od100 : Option Addr} {doc100 pm100 : Value} {an100 : Option Addr} {cda100 cc100 : Addr} {ct100 : Value} {osl100 : Array (Option Value)} {ccl100 : Value} {cdd100 : Option Addr} {vs100 : Array Value} {ccs100 : Array (Option Value)} {tf100 : Tok} {cl100 : Value} {cld100 : Option Addr} {csl100 : Array (Option Value)}
    {C123 : Addr}
    {f125 : Addr} {nm126 qn126 : Str} {N126 : Addr} {bs126 bm126 : List Value} {sn126 : List Str} {sub126 : List Value} {ab126 : Bool} {col126 : Option Bool} {dd126 : Option Addr} {k0126 k1126 k2126 k3126 k5126 : Option Value}
    {oc126 : Value} {od126 : Option Addr} {doc126 pm126 : Value} {an126 : Option Addr} {cda126 cc126 : Addr} {ct126 : Value} {osl126 : Array (Option Value)} {ccl126 : Value} {cdd126 : Option Addr} {vs126 : Array Value} {ccs126 : Array (Option Value)} {tf126 : Tok} {cl126 : Value} {cld126 : Option Addr} {csl126 : Array (Option Value)}
    {C148 : Addr}
    {f150 : Addr} {nm151 qn151 : Str} {N151 : Addr} {bs151 bm151 : List Value} {sn151 : List Str} {sub151 : List Value} {ab151 : Bool} {col151 : Option Bool} {dd151 : Option Addr} {k0151 k1151 k2151 k3151 k5151 : Option Value}
    {oc151 : Value} {od151 : Option Addr} {doc151 pm151 : Value} {an151 : Option Addr} {cda151 cc151 : Addr} {ct151 : Value} {osl151 : Array (Option Value)} {ccl151 : Value} {cdd151 : Option Addr} {vs151 : Array Value} {ccs151 : Array (Option Value)} {tf151 : Tok} {cl151 : Value} {cld151 : Option Addr} {csl151 : Array (Option Value)}
    {C172 : Addr}
    {f174 : Addr} {nm175 qn175 : Str} {N175 : Addr} {bs175 bm175 : List Value} {sn175 : List Str} {sub175 : List Value} {ab175 : Bool} {col175 : Option Bool} {dd175 : Option Addr} {k0175 k1175 k2175 k3175 k5175 : Option Value}
    {oc175 : Value} {od175 : Option Addr} {doc175 pm175 : Value} {an175 : Option Addr} {cda175 cc175 : Addr} {ct175 : Value} {osl175 : Array (Option Value)} {ccl175 : Value} {cdd175 : Option Addr} {vs175 : Array Value} {ccs175 : Array (Option Value)} {tf175 : Tok} {cl175 : Value} {cld175 : Option Addr} {csl175 : Array (Option Value)}
    {C198 : Addr}
    {f200 : Addr} {nm201 qn201 : Str} {N201 : Addr} {bs201 bm201 : List Value} {sn201 : List Str} {sub201 : List Value} {ab201 : Bool} {col201 : Option Bool} {dd201 : Option Addr} {k0201 k1201 k2201 k3201 k5201 : Option Value}
    {oc201 : Value} {od201 : Option Addr} {doc201 pm201 : Value} {an201 : Option Addr} {cda201 cc201 : Addr} {ct201 : Value} {osl201 : Array (Option Value)} {ccl201 : Value} {cdd201 : Option Addr} {vs201 : Array Value} {ccs201 : Array (Option Value)} {tf201 : Tok} {cl201 : Value} {cld201 : Option Addr} {csl201 : Array (Option Value)}
    {C223 : Addr}
    {f225 : Addr} {nm226 qn226 : Str} {N226 : Addr} {bs226 bm226 : List Value} {sn226 : List Str} {sub226 : List Value} {ab226 : Bool} {col226 : Option Bool} {dd226 : Option Addr} {k0226 k1226 k2226 k3226 k5226 : Option Value}
    {oc226 : Value} {od226 : Option Addr} {doc226 pm226 : Value} {an226 : Option Addr} {cda226 cc226 : Addr} {ct226 : Value} {osl226 : Array (Option Value)} {ccl226 : Value} {cdd226 : Option Addr} {vs226 : Array Value} {ccs226 : Array (Option Value)} {tf226 : Tok} {cl226 : Value} {cld226 : Option Addr} {csl226 : Array (Option Value)}
    {C248 : Addr}
    {f250 : Addr} {nm251 qn251 : Str} {N251 : Addr} {bs251 bm251 : List Value} {sn251 : List Str} {sub251 : List Value} {ab251 : Bool} {col251 : Option Bool} {dd251 : Option Addr} {k0251 k1251 k2251 k3251 k5251 : Option Value}
    {oc251 : Value} {od251 : Option Addr} {doc251 pm251 : Value} {an251 : Option Addr} {cda251 cc251 : Addr} {ct251 : Value} {osl251 : Array (Option Value)} {ccl251 : Value} {cdd251 : Option Addr} {vs251 : Array Value} {ccs251 : Array (Option Value)} {tf251 : Tok} {cl251 : Value} {cld251 : Option Addr} {csl251 : Array (Option Value)}
    {C273 : Addr}
    {f275 : Addr} {nm276 qn276 : Str} {N276 : Addr} {bs276 bm276 : List Value} {sn276 : List Str} {sub276 : List Value} {ab276 : Bool} {col276 : Option Bool} {dd276 : Option Addr} {k0276 k1276 k2276 k3276 k5276 : Option Value}
    {oc276 : Value} {od276 : Option Addr} {doc276 pm276 : Value} {an276 : Option Addr} {cda276 cc276 : Addr} {ct276 : Value} {osl276 : Array (Option Value)} {ccl276 : Value} {cdd276 : Option Addr} {vs276 : Array Value} {ccs276 : Array (Option Value)} {tf276 : Tok} {cl276 : Value} {cld276 : Option Addr} {csl276 : Array (Option Value)}
    {C307 : Addr}
    {f318 : Addr}
    {od323 an323 : Option Addr} {sl323 : Array (Option Value)} {oc323 kV323 dc323 pm323 cd323 ct323 : Value}
    {C324 : Addr}
    {f332 : Addr}
    {od337 an337 : Option Addr} {sl337 : Array (Option Value)} {oc337 kV337 dc337 pm337 cd337 ct337 : Value}
    {C338 : Addr}
    {f349 : Addr}
    {od354 an354 : Option Addr} {sl354 : Array (Option Value)} {oc354 kV354 dc354 pm354 cd354 ct354 : Value}
    {f355 : Addr}
    {od358 an358 : Option Addr} {sl358 : Array (Option Value)} {oc358 kV358 dc358 pm358 cd358 ct358 : Value}
    {f359 : Addr}
    {od362 an362 : Option Addr} {sl362 : Array (Option Value)} {oc362 kV362 dc362 pm362 cd362 ct362 : Value}
    {f363 : Addr}
    {od366 an366 : Option Addr} {sl366 : Array (Option Value)} {oc366 kV366 dc366 pm366 cd366 ct366 : Value}
    {f367 : Addr}
    {od370 an370 : Option Addr} {sl370 : Array (Option Value)} {oc370 kV370 dc370 pm370 cd370 ct370 : Value}
    {f371 : Addr}
    {od374 an374 : Option Addr} {sl374 : Array (Option Value)} {oc374 dc374 pm374 cd374 ct374 : Value}
    {T375 : Addr} {oc376 : Value} {od377 : Option Addr} {on378 : Nat} {os379 : Array (Option Value)}
    {t380 : Tok}
    {kV374 : Value}
    {f382 : Addr}
    {od385 an385 : Option Addr} {sl385 : Array (Option Value)} {oc385 kV385 dc385 pm385 cd385 ct385 : Value}
    {f386 : Addr}
    {od389 an389 : Option Addr} {sl389 : Array (Option Value)} {oc389 kV389 dc389 pm389 cd389 ct389 : Value}
    {f390 : Addr}
    {od393 an393 : Option Addr} {sl393 : Array (Option Value)} {oc393 dc393 pm393 cd393 ct393 : Value}
    {T394 : Addr} {oc395 : Value} {od396 : Option Addr} {on397 : Nat} {os398 : Array (Option Value)}
    {D401 : Addr}
    {f404 : Addr}
    {od407 an407 : Option Addr} {sl407 : Array (Option Value)} {oc407 kV407 dc407 pm407 cd407 ct407 : Value}
    {f408 : Addr}
    {od411 an411 : Option Addr} {sl411 : Array (Option Value)} {oc411 kV411 dc411 pm411 cd411 ct411 : Value}
    {f412 : Addr}
    {od415 an415 : Option Addr} {sl415 : Array (Option Value)} {oc415 kV415 dc415 pm415 cd415 ct415 : Value}
    {f416 : Addr}
    {od419 an419 : Option Addr} {sl419 : Array (Option Value)} {oc419 kV419 dc419 pm419 cd419 ct419 : Value}
    {f420 : Addr}
    {od423 an423 : Option Addr} {sl423 : Array (Option Value)} {oc423 kV423 dc423 pm423 cd423 ct423 : Value}
    {f424 : Addr}
    {od427 an427 : Option Addr} {sl427 : Array (Option Value)} {oc427 kV427 dc427 pm427 cd427 ct427 : Value}
    {f428 : Addr}
    {od431 an431 : Option Addr} {sl431 : Array (Option Value)} {oc431 kV431 dc431 pm431 cd431 ct431 : Value}
    {f432 : Addr}
    {od435 an435 : Option Addr} {sl435 : Array (Option Value)} {oc435 kV435 dc435 pm435 cd435 ct435 : Value}
    {f436 : Addr}
    {od439 an439 : Option Addr} {sl439 : Array (Option Value)} {oc439 kV439 dc439 pm439 cd439 ct439 : Value}
    {f440 : Addr}
    {od443 an443 : Option Addr} {sl443 : Array (Option Value)} {oc443 kV443 dc443 pm443 cd443 ct443 : Value}
    {f444 : Addr}
    {od447 an447 : Option Addr} {sl447 : Array (Option Value)} {oc447 kV447 dc447 pm447 cd447 ct447 : Value}
    {f448 p449 : Addr} {rs450 : List Value}
    {od455 an455 : Option Addr} {sl455 : Array (Option Value)} {oc455 kV455 dc455 pm455 cd455 ct455 : Value}
    {f456 p457 : Addr} {rs458 : List Value}
    {od463 an463 : Option Addr} {sl463 : Array (Option Value)} {oc463 kV463 dc463 pm463 cd463 ct463 : Value}
    {f464 p465 : Addr} {rs466 : List Value}
    {od471 an471 : Option Addr} {sl471 : Array (Option Value)} {oc471 kV471 dc471 pm471 cd471 ct471 : Value}
    {f472 p473 : Addr} {rs474 : List Value}
    {od479 an479 : Option Addr} {sl479 : Array (Option Value)} {oc479 kV479 dc479 pm479 cd479 ct479 : Value}
    {f480 p481 : Addr} {rs482 : List Value}
    {od487 an487 : Option Addr} {sl487 : Array (Option Value)} {oc487 kV487 dc487 pm487 cd487 ct487 : Value}
    {f489 : Addr}
    {od491 an491 : Option Addr} {sl491 : Array (Option Value)} {oc491 kV491 dc491 pm491 cd491 ct491 : Value}
    {f492 : Addr}
    {od494 an494 : Option Addr} {sl494 : Array (Option Value)} {oc494 kV494 dc494 pm494 cd494 ct494 : Value}
    {f495 : Addr}
    {od497 an497 : Option Addr} {sl497 : Array (Option Value)} {oc497 kV497 dc497 pm497 cd497 ct497 : Value}
    {f498 : Addr}
    {od500 an500 : Option Addr} {sl500 : Array (Option Value)} {oc500 kV500 dc500 pm500 cd500 ct500 : Value}
    {f501 : Addr}
    {od503 an503 : Option Addr} {sl503 : Array (Option Value)} {oc503 kV503 dc503 pm503 cd503 ct503 : Value}
    {f504 : Addr}
    {od506 an506 : Option Addr} {sl506 : Array (Option Value)} {oc506 kV506 dc506 pm506 cd506 ct506 : Value}
    {f507 : Addr}
    {od509 an509 : Option Addr} {sl509 : Array (Option Value)} {oc509 kV509 dc509 pm509 cd509 ct509 : Value}
    {f510 : Addr}
    {od512 an512 : Option Addr} {sl512 : Array (Option Value)} {oc512 kV512 dc512 pm512 cd512 ct512 : Value}
    {f513 : Addr}
    {od515 an515 : Option Addr} {sl515 : Array (Option Value)} {oc515 kV515 dc515 pm515 cd515 ct515 : Value}
    {od516 an516 : Option Addr} {sl516 : Array (Option Value)} {oc516 kV516 dc516 pm516 cd516 ct516 : Value}
    {C537 : Addr}
    (a0 : PySem.W.nsIn K mainGlobals "law" = some (some (.ref f0)))
    (a2 : PySem.W.nsIn K mainGlobals "Mode" = some (some (.ref C1)))
    (r3 : PySem.W.readsIn K C1 (.type "type") = true)
    (s4 : PySem.W.specialIn K (.ref C1) "__getattribute__" = some (some (.builtin "type.__getattribute__")))
    (z5 : PySem.W.findCls K (.ref C1) (.type "type") "JOIN" = some (.val (.str "join" t6)))
    (z7 : PySem.W.findCls K (.ref C1) (.type "type") "INNER" = some (.val (.str "inner" t8)))
    (z9 : PySem.W.findCls K (.ref C1) (.type "type") "APART" = some (.val (.str "apart" t10)))
    (z11 : PySem.W.findCls K (.ref C1) (.type "type") "MUST" = some (.val (.str "must" t12)))
    (z13 : PySem.W.findCls K (.ref C1) (.type "type") "EITHER" = some (.val (.str "either" t14)))
    (z15 : PySem.W.findCls K (.ref C1) (.type "type") "NEVER" = some (.val (.str "never" t16)))
    (z17 : PySem.W.findCls K (.ref C1) (.type "type") "OUTSIDE" = some (.val (.str "outside" t18)))
    (z19 : PySem.W.findCls K (.ref C1) (.type "type") "ALONE" = some (.val (.str "alone" t20)))
    (z21 : PySem.W.findCls K (.ref C1) (.type "type") "ALL" = some (.val (.ref p22)))
    (l23 : K.lookup p22 = some ⟨.type "tuple", dd32, .seq #[.str "join" t24, .str "inner" t25, .str "apart" t26, .str "must" t27, .str "either" t28, .str "never" t29, .str "outside" t30, .str "alone" t31] nn33, sl34⟩)
    (z37 : PySem.W.findCls K (.ref C1) (.type "type") "is_mode" = some (.get (.builtin "staticmethod.__get__") (.ref p36) .none (.ref C1)))
    (r38 : PySem.W.recIn K p36 "staticmethod" = some (.ref f35 :: rs39))
    (l40 : K.lookup f35 = some ⟨oc40, od40, .func (PySem.W.fnOf "is_mode" "Mode.is_mode" (defArgs s_Mode_is_mode) (defBody s_Mode_is_mode) (defScope s_Mode_is_mode) .none kV40 dc40 pm40 an40 cd40 ct40), sl40⟩)
    (c40 : PySem.W.codeIn K cd40 "Mode.is_mode" = true)
    (k40 : PySem.W.keepIn K (.ref f35) = true)
    (a42 : PySem.W.nsIn K mainGlobals "is_word" = some (some (.ref f41)))
    (l43 : K.lookup f41 = some ⟨oc43, od43, .func (PySem.W.fnOf "is_word" "is_word" (defArgs s_is_word) (defBody s_is_word) (defScope s_is_word) .none kV43 dc43 pm43 an43 cd43 ct43), sl43⟩)
    (c43 : PySem.W.codeIn K cd43 "is_word" = true)
    (k43 : PySem.W.keepIn K (.ref f41) = true)
    (z44 : PySem.W.nsIn K cStatics "thirdparty.any" = some none)
    (a46 : PySem.W.nsIn K mainGlobals "Missing" = some (some (.ref C45)))
    (e49 : K.lookup C45 = some (excClassObj nm48 qn48 C45 N48 bs48 bm48 true sn48 sub48 ab48 col48 dd48 k048 k148 k248 k348 k548 "ValueError.__new__"))
    (e50 : PySem.HandSPX.refsVE bm48 = true)
    (e51 : PySem.W.findIn K (.ref C45) "__setattr__" = some (some (.builtin "object.__setattr__")))
    (e52 : PySem.W.findIn K (.ref C45) "__getattribute__" = some (some (.builtin "BaseException.__getattribute__")))
    (e53 : PySem.W.findIn K (.ref C45) "__getattr__" = some none)
    (e54 : PySem.W.findIn K (.ref C45) "__init__" = some (some (.ref f47)))
    (e55 : PySem.W.typeIn K (.ref f47) = some (.type "function"))
    (e56 : PySem.W.keepIn K (.ref C45) = true)
    (e57 : PySem.W.subIn K (.ref C45) (.type "BaseException") = some true)
    (e58 : PySem.W.subIn K (.ref C45) (.type "ValueError") = some true)
    (e59 : PySem.W.typeIn K (.ref C45) = some (.type "type"))
    (e60 : PySem.W.hasDictIn K C45 = true)
    (e61 : PySem.W.ks_superIn K C45 C45 "__init__" = some (some (.builtin "ValueError.__init__")))
    (e62 : PySem.W.mroIn K C45 (.ref C45) = some true)
    (e63 : PySem.W.exmOne K (.ref C45) (.ref C45) = some true)
    (e64 : K.lookup f47 = some ⟨oc48, od48, .func (PySem.W.ksFn "__init__" "Missing.__init__" (defArgs s_MissingU_initU) (defBody s_MissingU_initU) (defScope s_MissingU_initU) .none .none doc48 pm48 an48 (.ref cda48) ct48 cc48), osl48⟩)
    (e65 : PySem.W.codeIn K (.ref cda48) "Missing.__init__" = true)
    (e66 : K.lookup cda48 = some ⟨ccl48, cdd48, .fields vs48, ccs48⟩)
    (e67 : vs48[2]? = some (.str P.main.file tf48))
    (e68 : K.lookup cc48 = some ⟨cl48, cld48, .cell (some (.ref C45)), csl48⟩)
    (e69 : PySem.W.findIn K (.ref C45) "word" = some none)
    (e70 : PySem.W.findIn K (.ref C45) "mode" = some none)
    (a72 : PySem.W.nsIn K mainGlobals "Present" = some (some (.ref C71)))
    (e75 : K.lookup C71 = some (excClassObj nm74 qn74 C71 N74 bs74 bm74 true sn74 sub74 ab74 col74 dd74 k074 k174 k274 k374 k574 "ValueError.__new__"))
    (e76 : PySem.HandSPX.refsVE bm74 = true)
    (e77 : PySem.W.findIn K (.ref C71) "__setattr__" = some (some (.builtin "object.__setattr__")))
    (e78 : PySem.W.findIn K (.ref C71) "__getattribute__" = some (some (.builtin "BaseException.__getattribute__")))
    (e79 : PySem.W.findIn K (.ref C71) "__getattr__" = some none)
    (e80 : PySem.W.findIn K (.ref C71) "__init__" = some (some (.ref f73)))
    (e81 : PySem.W.typeIn K (.ref f73) = some (.type "function"))
    (e82 : PySem.W.keepIn K (.ref C71) = true)
    (e83 : PySem.W.subIn K (.ref C71) (.type "BaseException") = some true)
    (e84 : PySem.W.subIn K (.ref C71) (.type "ValueError") = some true)
    (e85 : PySem.W.typeIn K (.ref C71) = some (.type "type"))
    (e86 : PySem.W.hasDictIn K C71 = true)
    (e87 : PySem.W.ks_superIn K C71 C71 "__init__" = some (some (.builtin "ValueError.__init__")))
    (e88 : PySem.W.mroIn K C71 (.ref C71) = some true)
    (e89 : PySem.W.exmOne K (.ref C71) (.ref C71) = some true)
    (e90 : K.lookup f73 = some ⟨oc74, od74, .func (PySem.W.ksFn "__init__" "Present.__init__" (defArgs s_PresentU_initU) (defBody s_PresentU_initU) (defScope s_PresentU_initU) .none .none doc74 pm74 an74 (.ref cda74) ct74 cc74), osl74⟩)
    (e91 : PySem.W.codeIn K (.ref cda74) "Present.__init__" = true)
    (e92 : K.lookup cda74 = some ⟨ccl74, cdd74, .fields vs74, ccs74⟩)
    (e93 : vs74[2]? = some (.str P.main.file tf74))
    (e94 : K.lookup cc74 = some ⟨cl74, cld74, .cell (some (.ref C71)), csl74⟩)
    (e95 : PySem.W.findIn K (.ref C71) "word" = some none)
    (e96 : PySem.W.findIn K (.ref C71) "mode" = some none)
    (a98 : PySem.W.nsIn K mainGlobals "Doomed" = some (some (.ref C97)))
    (e101 : K.lookup C97 = some (excClassObj nm100 qn100 C97 N100 bs100 bm100 true sn100 sub100 ab100 col100 dd100 k0100 k1100 k2100 k3100 k5100 "ValueError.__new__"))
    (e102 : PySem.HandSPX.refsVE bm100 = true)
    (e103 : PySem.W.findIn K (.ref C97) "__setattr__" = some (some (.builtin "object.__setattr__")))
    (e104 : PySem.W.findIn K (.ref C97) "__getattribute__" = some (some (.builtin "BaseException.__getattribute__")))
    (e105 : PySem.W.findIn K (.ref C97) "__getattr__" = some none)
    (e106 : PySem.W.findIn K (.ref C97) "__init__" = some (some (.ref f99)))
    (e107 : PySem.W.typeIn K (.ref f99) = some (.type "function"))
    (e108 : PySem.W.keepIn K (.ref C97) = true)
    (e109 : PySem.W.subIn K (.ref C97) (.type "BaseException") = some true)
    (e110 : PySem.W.subIn K (.ref C97) (.type "ValueError") = some true)
    (e111 : PySem.W.typeIn K (.ref C97) = some (.type "type"))
    (e112 : PySem.W.hasDictIn K C97 = true)
    (e113 : PySem.W.ks_superIn K C97 C97 "__init__" = some (some (.builtin "ValueError.__init__")))
    (e114 : PySem.W.mroIn K C97 (.ref C97) = some true)
    (e115 : PySem.W.exmOne K (.ref C97) (.ref C97) = some true)
    (e116 : K.lookup f99 = some ⟨oc100, od100, .func (PySem.W.ksFn "__init__" "Doomed.__init__" (defArgs s_DoomedU_initU) (defBody s_DoomedU_initU) (defScope s_DoomedU_initU) .none .none doc100 pm100 an100 (.ref cda100) ct100 cc100), osl100⟩)
    (e117 : PySem.W.codeIn K (.ref cda100) "Doomed.__init__" = true)
    (e118 : K.lookup cda100 = some ⟨ccl100, cdd100, .fields vs100, ccs100⟩)
    (e119 : vs100[2]? = some (.str P.main.file tf100))
    (e120 : K.lookup cc100 = some ⟨cl100, cld100, .cell (some (.ref C97)), csl100⟩)
    (e121 : PySem.W.findIn K (.ref C97) "word" = some none)
    (e122 : PySem.W.findIn K (.ref C97) "first" = some none)
    (a124 : PySem.W.nsIn K mainGlobals "Refused" = some (some (.ref C123)))
    (e127 : K.lookup C123 = some (excClassObj nm126 qn126 C123 N126 bs126 bm126 true sn126 sub126 ab126 col126 dd126 k0126 k1126 k2126 k3126 k5126 "ValueError.__new__"))
    (e128 : PySem.HandSPX.refsVE bm126 = true)
    (e129 : PySem.W.findIn K (.ref C123) "__setattr__" = some (some (.builtin "object.__setattr__")))
    (e130 : PySem.W.findIn K (.ref C123) "__getattribute__" = some (some (.builtin "BaseException.__getattribute__")))
    (e131 : PySem.W.findIn K (.ref C123) "__getattr__" = some none)
    (e132 : PySem.W.findIn K (.ref C123) "__init__" = some (some (.ref f125)))
    (e133 : PySem.W.typeIn K (.ref f125) = some (.type "function"))
    (e134 : PySem.W.keepIn K (.ref C123) = true)
    (e135 : PySem.W.subIn K (.ref C123) (.type "BaseException") = some true)
    (e136 : PySem.W.subIn K (.ref C123) (.type "ValueError") = some true)
    (e137 : PySem.W.typeIn K (.ref C123) = some (.type "type"))
    (e138 : PySem.W.hasDictIn K C123 = true)
    (e139 : PySem.W.ks_superIn K C123 C123 "__init__" = some (some (.builtin "ValueError.__init__")))
    (e140 : PySem.W.mroIn K C123 (.ref C123) = some true)
    (e141 : PySem.W.exmOne K (.ref C123) (.ref C123) = some true)
    (e142 : K.lookup f125 = some ⟨oc126, od126, .func (PySem.W.ksFn "__init__" "Refused.__init__" (defArgs s_RefusedU_initU) (defBody s_RefusedU_initU) (defScope s_RefusedU_initU) .none .none doc126 pm126 an126 (.ref cda126) ct126 cc126), osl126⟩)
    (e143 : PySem.W.codeIn K (.ref cda126) "Refused.__init__" = true)
    (e144 : K.lookup cda126 = some ⟨ccl126, cdd126, .fields vs126, ccs126⟩)
    (e145 : vs126[2]? = some (.str P.main.file tf126))
    (e146 : K.lookup cc126 = some ⟨cl126, cld126, .cell (some (.ref C123)), csl126⟩)
    (e147 : PySem.W.findIn K (.ref C123) "word" = some none)
    (a149 : PySem.W.nsIn K mainGlobals "NoBlock" = some (some (.ref C148)))
    (e152 : K.lookup C148 = some (excClassObj nm151 qn151 C148 N151 bs151 bm151 true sn151 sub151 ab151 col151 dd151 k0151 k1151 k2151 k3151 k5151 "ValueError.__new__"))
    (e153 : PySem.HandSPX.refsVE bm151 = true)
    (e154 : PySem.W.findIn K (.ref C148) "__setattr__" = some (some (.builtin "object.__setattr__")))
    (e155 : PySem.W.findIn K (.ref C148) "__getattribute__" = some (some (.builtin "BaseException.__getattribute__")))
    (e156 : PySem.W.findIn K (.ref C148) "__getattr__" = some none)
    (e157 : PySem.W.findIn K (.ref C148) "__init__" = some (some (.ref f150)))
    (e158 : PySem.W.typeIn K (.ref f150) = some (.type "function"))
    (e159 : PySem.W.keepIn K (.ref C148) = true)
    (e160 : PySem.W.subIn K (.ref C148) (.type "BaseException") = some true)
    (e161 : PySem.W.subIn K (.ref C148) (.type "ValueError") = some true)
    (e162 : PySem.W.typeIn K (.ref C148) = some (.type "type"))
    (e163 : PySem.W.hasDictIn K C148 = true)
    (e164 : PySem.W.ks_superIn K C148 C148 "__init__" = some (some (.builtin "ValueError.__init__")))
    (e165 : PySem.W.mroIn K C148 (.ref C148) = some true)
    (e166 : PySem.W.exmOne K (.ref C148) (.ref C148) = some true)
    (e167 : K.lookup f150 = some ⟨oc151, od151, .func (PySem.W.ksFn "__init__" "NoBlock.__init__" (defArgs s_NoBlockU_initU) (defBody s_NoBlockU_initU) (defScope s_NoBlockU_initU) .none .none doc151 pm151 an151 (.ref cda151) ct151 cc151), osl151⟩)
    (e168 : PySem.W.codeIn K (.ref cda151) "NoBlock.__init__" = true)
    (e169 : K.lookup cda151 = some ⟨ccl151, cdd151, .fields vs151, ccs151⟩)
    (e170 : vs151[2]? = some (.str P.main.file tf151))
    (e171 : K.lookup cc151 = some ⟨cl151, cld151, .cell (some (.ref C148)), csl151⟩)
    (a173 : PySem.W.nsIn K mainGlobals "Waits" = some (some (.ref C172)))
    (e176 : K.lookup C172 = some (excClassObj nm175 qn175 C172 N175 bs175 bm175 true sn175 sub175 ab175 col175 dd175 k0175 k1175 k2175 k3175 k5175 "ValueError.__new__"))
    (e177 : PySem.HandSPX.refsVE bm175 = true)
    (e178 : PySem.W.findIn K (.ref C172) "__setattr__" = some (some (.builtin "object.__setattr__")))
    (e179 : PySem.W.findIn K (.ref C172) "__getattribute__" = some (some (.builtin "BaseException.__getattribute__")))
    (e180 : PySem.W.findIn K (.ref C172) "__getattr__" = some none)
    (e181 : PySem.W.findIn K (.ref C172) "__init__" = some (some (.ref f174)))
    (e182 : PySem.W.typeIn K (.ref f174) = some (.type "function"))
    (e183 : PySem.W.keepIn K (.ref C172) = true)
    (e184 : PySem.W.subIn K (.ref C172) (.type "BaseException") = some true)
    (e185 : PySem.W.subIn K (.ref C172) (.type "ValueError") = some true)
    (e186 : PySem.W.typeIn K (.ref C172) = some (.type "type"))
    (e187 : PySem.W.hasDictIn K C172 = true)
    (e188 : PySem.W.ks_superIn K C172 C172 "__init__" = some (some (.builtin "ValueError.__init__")))
    (e189 : PySem.W.mroIn K C172 (.ref C172) = some true)
    (e190 : PySem.W.exmOne K (.ref C172) (.ref C172) = some true)
    (e191 : K.lookup f174 = some ⟨oc175, od175, .func (PySem.W.ksFn "__init__" "Waits.__init__" (defArgs s_WaitsU_initU) (defBody s_WaitsU_initU) (defScope s_WaitsU_initU) .none .none doc175 pm175 an175 (.ref cda175) ct175 cc175), osl175⟩)
    (e192 : PySem.W.codeIn K (.ref cda175) "Waits.__init__" = true)
    (e193 : K.lookup cda175 = some ⟨ccl175, cdd175, .fields vs175, ccs175⟩)
    (e194 : vs175[2]? = some (.str P.main.file tf175))
    (e195 : K.lookup cc175 = some ⟨cl175, cld175, .cell (some (.ref C172)), csl175⟩)
    (e196 : PySem.W.findIn K (.ref C172) "word" = some none)
    (e197 : PySem.W.findIn K (.ref C172) "record" = some none)
    (a199 : PySem.W.nsIn K mainGlobals "NoRecord" = some (some (.ref C198)))
    (e202 : K.lookup C198 = some (excClassObj nm201 qn201 C198 N201 bs201 bm201 true sn201 sub201 ab201 col201 dd201 k0201 k1201 k2201 k3201 k5201 "ValueError.__new__"))
    (e203 : PySem.HandSPX.refsVE bm201 = true)
    (e204 : PySem.W.findIn K (.ref C198) "__setattr__" = some (some (.builtin "object.__setattr__")))
    (e205 : PySem.W.findIn K (.ref C198) "__getattribute__" = some (some (.builtin "BaseException.__getattribute__")))
    (e206 : PySem.W.findIn K (.ref C198) "__getattr__" = some none)
    (e207 : PySem.W.findIn K (.ref C198) "__init__" = some (some (.ref f200)))
    (e208 : PySem.W.typeIn K (.ref f200) = some (.type "function"))
    (e209 : PySem.W.keepIn K (.ref C198) = true)
    (e210 : PySem.W.subIn K (.ref C198) (.type "BaseException") = some true)
    (e211 : PySem.W.subIn K (.ref C198) (.type "ValueError") = some true)
    (e212 : PySem.W.typeIn K (.ref C198) = some (.type "type"))
    (e213 : PySem.W.hasDictIn K C198 = true)
    (e214 : PySem.W.ks_superIn K C198 C198 "__init__" = some (some (.builtin "ValueError.__init__")))
    (e215 : PySem.W.mroIn K C198 (.ref C198) = some true)
    (e216 : PySem.W.exmOne K (.ref C198) (.ref C198) = some true)
    (e217 : K.lookup f200 = some ⟨oc201, od201, .func (PySem.W.ksFn "__init__" "NoRecord.__init__" (defArgs s_NoRecordU_initU) (defBody s_NoRecordU_initU) (defScope s_NoRecordU_initU) .none .none doc201 pm201 an201 (.ref cda201) ct201 cc201), osl201⟩)
    (e218 : PySem.W.codeIn K (.ref cda201) "NoRecord.__init__" = true)
    (e219 : K.lookup cda201 = some ⟨ccl201, cdd201, .fields vs201, ccs201⟩)
    (e220 : vs201[2]? = some (.str P.main.file tf201))
    (e221 : K.lookup cc201 = some ⟨cl201, cld201, .cell (some (.ref C198)), csl201⟩)
    (e222 : PySem.W.findIn K (.ref C198) "record" = some none)
    (a224 : PySem.W.nsIn K mainGlobals "BadWord" = some (some (.ref C223)))
    (e227 : K.lookup C223 = some (excClassObj nm226 qn226 C223 N226 bs226 bm226 true sn226 sub226 ab226 col226 dd226 k0226 k1226 k2226 k3226 k5226 "ValueError.__new__"))
    (e228 : PySem.HandSPX.refsVE bm226 = true)
    (e229 : PySem.W.findIn K (.ref C223) "__setattr__" = some (some (.builtin "object.__setattr__")))
    (e230 : PySem.W.findIn K (.ref C223) "__getattribute__" = some (some (.builtin "BaseException.__getattribute__")))
    (e231 : PySem.W.findIn K (.ref C223) "__getattr__" = some none)
    (e232 : PySem.W.findIn K (.ref C223) "__init__" = some (some (.ref f225)))
    (e233 : PySem.W.typeIn K (.ref f225) = some (.type "function"))
    (e234 : PySem.W.keepIn K (.ref C223) = true)
    (e235 : PySem.W.subIn K (.ref C223) (.type "BaseException") = some true)
    (e236 : PySem.W.subIn K (.ref C223) (.type "ValueError") = some true)
    (e237 : PySem.W.typeIn K (.ref C223) = some (.type "type"))
    (e238 : PySem.W.hasDictIn K C223 = true)
    (e239 : PySem.W.ks_superIn K C223 C223 "__init__" = some (some (.builtin "ValueError.__init__")))
    (e240 : PySem.W.mroIn K C223 (.ref C223) = some true)
    (e241 : PySem.W.exmOne K (.ref C223) (.ref C223) = some true)
    (e242 : K.lookup f225 = some ⟨oc226, od226, .func (PySem.W.ksFn "__init__" "BadWord.__init__" (defArgs s_BadWordU_initU) (defBody s_BadWordU_initU) (defScope s_BadWordU_initU) .none .none doc226 pm226 an226 (.ref cda226) ct226 cc226), osl226⟩)
    (e243 : PySem.W.codeIn K (.ref cda226) "BadWord.__init__" = true)
    (e244 : K.lookup cda226 = some ⟨ccl226, cdd226, .fields vs226, ccs226⟩)
    (e245 : vs226[2]? = some (.str P.main.file tf226))
    (e246 : K.lookup cc226 = some ⟨cl226, cld226, .cell (some (.ref C223)), csl226⟩)
    (e247 : PySem.W.findIn K (.ref C223) "word" = some none)
    (a249 : PySem.W.nsIn K mainGlobals "BadMode" = some (some (.ref C248)))
    (e252 : K.lookup C248 = some (excClassObj nm251 qn251 C248 N251 bs251 bm251 true sn251 sub251 ab251 col251 dd251 k0251 k1251 k2251 k3251 k5251 "ValueError.__new__"))
    (e253 : PySem.HandSPX.refsVE bm251 = true)
    (e254 : PySem.W.findIn K (.ref C248) "__setattr__" = some (some (.builtin "object.__setattr__")))
    (e255 : PySem.W.findIn K (.ref C248) "__getattribute__" = some (some (.builtin "BaseException.__getattribute__")))
    (e256 : PySem.W.findIn K (.ref C248) "__getattr__" = some none)
    (e257 : PySem.W.findIn K (.ref C248) "__init__" = some (some (.ref f250)))
    (e258 : PySem.W.typeIn K (.ref f250) = some (.type "function"))
    (e259 : PySem.W.keepIn K (.ref C248) = true)
    (e260 : PySem.W.subIn K (.ref C248) (.type "BaseException") = some true)
    (e261 : PySem.W.subIn K (.ref C248) (.type "ValueError") = some true)
    (e262 : PySem.W.typeIn K (.ref C248) = some (.type "type"))
    (e263 : PySem.W.hasDictIn K C248 = true)
    (e264 : PySem.W.ks_superIn K C248 C248 "__init__" = some (some (.builtin "ValueError.__init__")))
    (e265 : PySem.W.mroIn K C248 (.ref C248) = some true)
    (e266 : PySem.W.exmOne K (.ref C248) (.ref C248) = some true)
    (e267 : K.lookup f250 = some ⟨oc251, od251, .func (PySem.W.ksFn "__init__" "BadMode.__init__" (defArgs s_BadModeU_initU) (defBody s_BadModeU_initU) (defScope s_BadModeU_initU) .none .none doc251 pm251 an251 (.ref cda251) ct251 cc251), osl251⟩)
    (e268 : PySem.W.codeIn K (.ref cda251) "BadMode.__init__" = true)
    (e269 : K.lookup cda251 = some ⟨ccl251, cdd251, .fields vs251, ccs251⟩)
    (e270 : vs251[2]? = some (.str P.main.file tf251))
    (e271 : K.lookup cc251 = some ⟨cl251, cld251, .cell (some (.ref C248)), csl251⟩)
    (e272 : PySem.W.findIn K (.ref C248) "mode" = some none)
    (a274 : PySem.W.nsIn K mainGlobals "Failed" = some (some (.ref C273)))
    (e277 : K.lookup C273 = some (excClassObj nm276 qn276 C273 N276 bs276 bm276 true sn276 sub276 ab276 col276 dd276 k0276 k1276 k2276 k3276 k5276 "ValueError.__new__"))
    (e278 : PySem.HandSPX.refsVE bm276 = true)
    (e279 : PySem.W.findIn K (.ref C273) "__setattr__" = some (some (.builtin "object.__setattr__")))
    (e280 : PySem.W.findIn K (.ref C273) "__getattribute__" = some (some (.builtin "BaseException.__getattribute__")))
    (e281 : PySem.W.findIn K (.ref C273) "__getattr__" = some none)
    (e282 : PySem.W.findIn K (.ref C273) "__init__" = some (some (.ref f275)))
    (e283 : PySem.W.typeIn K (.ref f275) = some (.type "function"))
    (e284 : PySem.W.keepIn K (.ref C273) = true)
    (e285 : PySem.W.subIn K (.ref C273) (.type "BaseException") = some true)
    (e286 : PySem.W.subIn K (.ref C273) (.type "ValueError") = some true)
    (e287 : PySem.W.typeIn K (.ref C273) = some (.type "type"))
    (e288 : PySem.W.hasDictIn K C273 = true)
    (e289 : PySem.W.ks_superIn K C273 C273 "__init__" = some (some (.builtin "ValueError.__init__")))
    (e290 : PySem.W.mroIn K C273 (.ref C273) = some true)
    (e291 : PySem.W.exmOne K (.ref C273) (.ref C273) = some true)
    (e292 : K.lookup f275 = some ⟨oc276, od276, .func (PySem.W.ksFn "__init__" "Failed.__init__" (defArgs s_FailedU_initU) (defBody s_FailedU_initU) (defScope s_FailedU_initU) .none .none doc276 pm276 an276 (.ref cda276) ct276 cc276), osl276⟩)
    (e293 : PySem.W.codeIn K (.ref cda276) "Failed.__init__" = true)
    (e294 : K.lookup cda276 = some ⟨ccl276, cdd276, .fields vs276, ccs276⟩)
    (e295 : vs276[2]? = some (.str P.main.file tf276))
    (e296 : K.lookup cc276 = some ⟨cl276, cld276, .cell (some (.ref C273)), csl276⟩)
    (e297 : PySem.W.findIn K (.ref C273) "word" = some none)
    (z298 : PySem.W.exmOne K (.ref C45) (.ref C248) = some false)
    (z299 : PySem.W.exmOne K (.ref C71) (.ref C248) = some false)
    (z300 : PySem.W.exmOne K (.ref C71) (.ref C45) = some false)
    (z301 : PySem.W.exmOne K (.ref C97) (.ref C248) = some false)
    (z302 : PySem.W.exmOne K (.ref C97) (.ref C45) = some false)
    (z303 : PySem.W.exmOne K (.ref C97) (.ref C71) = some false)
    (z304 : PySem.W.exmOne K (.ref C198) (.ref C223) = some false)
    (z305 : PySem.W.exmOne K (.ref C148) (.ref C223) = some false)
    (z306 : PySem.W.exmOne K (.ref C148) (.ref C198) = some false)
    (a308 : PySem.W.nsIn K mainGlobals "Write" = some (some (.ref C307)))
    (q309 : PySem.W.plainGet K C307 Str.empty = true)
    (q310 : PySem.W.hasDictIn K C307 = true)
    (q311 : PySem.W.plainOver K C307 = true)
    (q312 : PySem.W.findIn K (.ref C307) "__setattr__" = some (some (.builtin "object.__setattr__")))
    (z313 : PySem.W.findIn K (.ref C307) "record" = some none)
    (z314 : PySem.W.findIn K (.ref C307) "value" = some none)
    (z315 : PySem.W.findIn K (.ref C307) "fate" = some none)
    (z316 : PySem.W.findIn K (.ref C307) "holder" = some none)
    (z317 : PySem.W.findIn K (.ref C307) "level" = some none)
    (q319 : PySem.W.makesIn K C307 = true)
    (q320 : PySem.W.findIn K (.ref C307) "__init__" = some (some (.ref f318)))
    (q321 : PySem.W.isFn K (.ref f318) = true)
    (q322 : PySem.W.keepIn K (.ref C307) = true)
    (l323 : K.lookup f318 = some ⟨oc323, od323, .func (PySem.W.fnOf "__init__" "Write.__init__" (defArgs s_WriteU_initU) (defBody s_WriteU_initU) (defScope s_WriteU_initU) .none kV323 dc323 pm323 an323 cd323 ct323), sl323⟩)
    (c323 : PySem.W.codeIn K cd323 "Write.__init__" = true)
    (k323 : PySem.W.keepIn K (.ref f318) = true)
    (a325 : PySem.W.nsIn K mainGlobals "Transaction" = some (some (.ref C324)))
    (q326 : PySem.W.plainGet K C324 Str.empty = true)
    (q327 : PySem.W.hasDictIn K C324 = true)
    (q328 : PySem.W.plainOver K C324 = true)
    (q329 : PySem.W.findIn K (.ref C324) "__setattr__" = some (some (.builtin "object.__setattr__")))
    (z330 : PySem.W.findIn K (.ref C324) "number" = some none)
    (z331 : PySem.W.findIn K (.ref C324) "reasons" = some none)
    (q333 : PySem.W.makesIn K C324 = true)
    (q334 : PySem.W.findIn K (.ref C324) "__init__" = some (some (.ref f332)))
    (q335 : PySem.W.isFn K (.ref f332) = true)
    (q336 : PySem.W.keepIn K (.ref C324) = true)
    (l337 : K.lookup f332 = some ⟨oc337, od337, .func (PySem.W.fnOf "__init__" "Transaction.__init__" (defArgs s_TransactionU_initU) (defBody s_TransactionU_initU) (defScope s_TransactionU_initU) .none kV337 dc337 pm337 an337 cd337 ct337), sl337⟩)
    (c337 : PySem.W.codeIn K cd337 "Transaction.__init__" = true)
    (k337 : PySem.W.keepIn K (.ref f332) = true)
    (a339 : PySem.W.nsIn K mainGlobals "Database" = some (some (.ref C338)))
    (q340 : PySem.W.plainGet K C338 Str.empty = true)
    (q341 : PySem.W.hasDictIn K C338 = true)
    (q342 : PySem.W.plainOver K C338 = true)
    (q343 : PySem.W.findIn K (.ref C338) "__setattr__" = some (some (.builtin "object.__setattr__")))
    (z344 : PySem.W.findIn K (.ref C338) "rows" = some none)
    (z345 : PySem.W.findIn K (.ref C338) "stack" = some none)
    (z346 : PySem.W.findIn K (.ref C338) "entered" = some none)
    (z347 : PySem.W.findIn K (.ref C338) "floor" = some none)
    (z348 : PySem.W.findIn K (.ref C338) "opened" = some none)
    (q350 : PySem.W.makesIn K C338 = true)
    (q351 : PySem.W.findIn K (.ref C338) "__init__" = some (some (.ref f349)))
    (q352 : PySem.W.isFn K (.ref f349) = true)
    (q353 : PySem.W.keepIn K (.ref C338) = true)
    (l354 : K.lookup f349 = some ⟨oc354, od354, .func (PySem.W.fnOf "__init__" "Database.__init__" (defArgs s_DatabaseU_initU) (defBody s_DatabaseU_initU) (defScope s_DatabaseU_initU) .none kV354 dc354 pm354 an354 cd354 ct354), sl354⟩)
    (c354 : PySem.W.codeIn K cd354 "Database.__init__" = true)
    (k354 : PySem.W.keepIn K (.ref f349) = true)
    (q356 : PySem.W.findIn K (.ref C338) "begin" = some (some (.ref f355)))
    (q357 : PySem.W.isFn K (.ref f355) = true)
    (l358 : K.lookup f355 = some ⟨oc358, od358, .func (PySem.W.fnOf "begin" "Database.begin" (defArgs s_Database_begin) (defBody s_Database_begin) (defScope s_Database_begin) .none kV358 dc358 pm358 an358 cd358 ct358), sl358⟩)
    (c358 : PySem.W.codeIn K cd358 "Database.begin" = true)
    (k358 : PySem.W.keepIn K (.ref f355) = true)
    (q360 : PySem.W.findIn K (.ref C338) "enter_alone" = some (some (.ref f359)))
    (q361 : PySem.W.isFn K (.ref f359) = true)
    (l362 : K.lookup f359 = some ⟨oc362, od362, .func (PySem.W.fnOf "enter_alone" "Database.enter_alone" (defArgs s_Database_enter_alone) (defBody s_Database_enter_alone) (defScope s_Database_enter_alone) .none kV362 dc362 pm362 an362 cd362 ct362), sl362⟩)
    (c362 : PySem.W.codeIn K cd362 "Database.enter_alone" = true)
    (k362 : PySem.W.keepIn K (.ref f359) = true)
    (q364 : PySem.W.findIn K (.ref C338) "enter_inside" = some (some (.ref f363)))
    (q365 : PySem.W.isFn K (.ref f363) = true)
    (l366 : K.lookup f363 = some ⟨oc366, od366, .func (PySem.W.fnOf "enter_inside" "Database.enter_inside" (defArgs s_Database_enter_inside) (defBody s_Database_enter_inside) (defScope s_Database_enter_inside) .none kV366 dc366 pm366 an366 cd366 ct366), sl366⟩)
    (c366 : PySem.W.codeIn K cd366 "Database.enter_inside" = true)
    (k366 : PySem.W.keepIn K (.ref f363) = true)
    (q368 : PySem.W.findIn K (.ref C338) "enter" = some (some (.ref f367)))
    (q369 : PySem.W.isFn K (.ref f367) = true)
    (l370 : K.lookup f367 = some ⟨oc370, od370, .func (PySem.W.fnOf "enter" "Database.enter" (defArgs s_Database_enter) (defBody s_Database_enter) (defScope s_Database_enter) .none kV370 dc370 pm370 an370 cd370 ct370), sl370⟩)
    (c370 : PySem.W.codeIn K cd370 "Database.enter" = true)
    (k370 : PySem.W.keepIn K (.ref f367) = true)
    (q372 : PySem.W.findIn K (.ref C338) "doom" = some (some (.ref f371)))
    (q373 : PySem.W.isFn K (.ref f371) = true)
    (l374 : K.lookup f371 = some ⟨oc374, od374, .func (PySem.W.fnOf "doom" "Database.doom" (defArgs s_Database_doom) (defBody s_Database_doom) (defScope s_Database_doom) (.ref T375) kV374 dc374 pm374 an374 cd374 ct374), sl374⟩)
    (c374 : PySem.W.codeIn K cd374 "Database.doom" = true)
    (k374 : PySem.W.keepIn K (.ref f371) = true)
    (lT381 : K.lookup T375 = some ⟨oc376, od377, .seq #[.str "doom" t380] on378, os379⟩)
    (q383 : PySem.W.findIn K (.ref C338) "end_level" = some (some (.ref f382)))
    (q384 : PySem.W.isFn K (.ref f382) = true)
    (l385 : K.lookup f382 = some ⟨oc385, od385, .func (PySem.W.fnOf "end_level" "Database.end_level" (defArgs s_Database_end_level) (defBody s_Database_end_level) (defScope s_Database_end_level) .none kV385 dc385 pm385 an385 cd385 ct385), sl385⟩)
    (c385 : PySem.W.codeIn K cd385 "Database.end_level" = true)
    (k385 : PySem.W.keepIn K (.ref f382) = true)
    (q387 : PySem.W.findIn K (.ref C338) "end_transaction" = some (some (.ref f386)))
    (q388 : PySem.W.isFn K (.ref f386) = true)
    (l389 : K.lookup f386 = some ⟨oc389, od389, .func (PySem.W.fnOf "end_transaction" "Database.end_transaction" (defArgs s_Database_end_transaction) (defBody s_Database_end_transaction) (defScope s_Database_end_transaction) .none kV389 dc389 pm389 an389 cd389 ct389), sl389⟩)
    (c389 : PySem.W.codeIn K cd389 "Database.end_transaction" = true)
    (k389 : PySem.W.keepIn K (.ref f386) = true)
    (q391 : PySem.W.findIn K (.ref C338) "leave" = some (some (.ref f390)))
    (q392 : PySem.W.isFn K (.ref f390) = true)
    (l393 : K.lookup f390 = some ⟨oc393, od393, .func (PySem.W.fnOf "leave" "Database.leave" (defArgs s_Database_leave) (defBody s_Database_leave) (defScope s_Database_leave) (.ref T394) (.ref D401) dc393 pm393 an393 cd393 ct393), sl393⟩)
    (c393 : PySem.W.codeIn K cd393 "Database.leave" = true)
    (k393 : PySem.W.keepIn K (.ref f390) = true)
    (lT400 : K.lookup T394 = some ⟨oc395, od396, .seq #[.none] on397, os398⟩)
    (z403 : PySem.W.nsIn K D401 "commits" = some (some (.bool true)))
    (q405 : PySem.W.findIn K (.ref C338) "held_by" = some (some (.ref f404)))
    (q406 : PySem.W.isFn K (.ref f404) = true)
    (l407 : K.lookup f404 = some ⟨oc407, od407, .func (PySem.W.fnOf "held_by" "Database.held_by" (defArgs s_Database_held_by) (defBody s_Database_held_by) (defScope s_Database_held_by) .none kV407 dc407 pm407 an407 cd407 ct407), sl407⟩)
    (c407 : PySem.W.codeIn K cd407 "Database.held_by" = true)
    (k407 : PySem.W.keepIn K (.ref f404) = true)
    (q409 : PySem.W.findIn K (.ref C338) "held_records" = some (some (.ref f408)))
    (q410 : PySem.W.isFn K (.ref f408) = true)
    (l411 : K.lookup f408 = some ⟨oc411, od411, .func (PySem.W.fnOf "held_records" "Database.held_records" (defArgs s_Database_held_records) (defBody s_Database_held_records) (defScope s_Database_held_records) .none kV411 dc411 pm411 an411 cd411 ct411), sl411⟩)
    (c411 : PySem.W.codeIn K cd411 "Database.held_records" = true)
    (k411 : PySem.W.keepIn K (.ref f408) = true)
    (q413 : PySem.W.findIn K (.ref C338) "outer_records" = some (some (.ref f412)))
    (q414 : PySem.W.isFn K (.ref f412) = true)
    (l415 : K.lookup f412 = some ⟨oc415, od415, .func (PySem.W.fnOf "outer_records" "Database.outer_records" (defArgs s_Database_outer_records) (defBody s_Database_outer_records) (defScope s_Database_outer_records) .none kV415 dc415 pm415 an415 cd415 ct415), sl415⟩)
    (c415 : PySem.W.codeIn K cd415 "Database.outer_records" = true)
    (k415 : PySem.W.keepIn K (.ref f412) = true)
    (q417 : PySem.W.findIn K (.ref C338) "would_wait" = some (some (.ref f416)))
    (q418 : PySem.W.isFn K (.ref f416) = true)
    (l419 : K.lookup f416 = some ⟨oc419, od419, .func (PySem.W.fnOf "would_wait" "Database.would_wait" (defArgs s_Database_would_wait) (defBody s_Database_would_wait) (defScope s_Database_would_wait) .none kV419 dc419 pm419 an419 cd419 ct419), sl419⟩)
    (c419 : PySem.W.codeIn K cd419 "Database.would_wait" = true)
    (k419 : PySem.W.keepIn K (.ref f416) = true)
    (q421 : PySem.W.findIn K (.ref C338) "write" = some (some (.ref f420)))
    (q422 : PySem.W.isFn K (.ref f420) = true)
    (l423 : K.lookup f420 = some ⟨oc423, od423, .func (PySem.W.fnOf "write" "Database.write" (defArgs s_Database_write) (defBody s_Database_write) (defScope s_Database_write) .none kV423 dc423 pm423 an423 cd423 ct423), sl423⟩)
    (c423 : PySem.W.codeIn K cd423 "Database.write" = true)
    (k423 : PySem.W.keepIn K (.ref f420) = true)
    (q425 : PySem.W.findIn K (.ref C338) "__setitem__" = some (some (.ref f424)))
    (q426 : PySem.W.isFn K (.ref f424) = true)
    (l427 : K.lookup f424 = some ⟨oc427, od427, .func (PySem.W.fnOf "__setitem__" "Database.__setitem__" (defArgs s_DatabaseU_setitemU) (defBody s_DatabaseU_setitemU) (defScope s_DatabaseU_setitemU) .none kV427 dc427 pm427 an427 cd427 ct427), sl427⟩)
    (c427 : PySem.W.codeIn K cd427 "Database.__setitem__" = true)
    (k427 : PySem.W.keepIn K (.ref f424) = true)
    (q429 : PySem.W.findIn K (.ref C338) "sees" = some (some (.ref f428)))
    (q430 : PySem.W.isFn K (.ref f428) = true)
    (l431 : K.lookup f428 = some ⟨oc431, od431, .func (PySem.W.fnOf "sees" "Database.sees" (defArgs s_Database_sees) (defBody s_Database_sees) (defScope s_Database_sees) .none kV431 dc431 pm431 an431 cd431 ct431), sl431⟩)
    (c431 : PySem.W.codeIn K cd431 "Database.sees" = true)
    (k431 : PySem.W.keepIn K (.ref f428) = true)
    (q433 : PySem.W.findIn K (.ref C338) "__getitem__" = some (some (.ref f432)))
    (q434 : PySem.W.isFn K (.ref f432) = true)
    (l435 : K.lookup f432 = some ⟨oc435, od435, .func (PySem.W.fnOf "__getitem__" "Database.__getitem__" (defArgs s_DatabaseU_getitemU) (defBody s_DatabaseU_getitemU) (defScope s_DatabaseU_getitemU) .none kV435 dc435 pm435 an435 cd435 ct435), sl435⟩)
    (c435 : PySem.W.codeIn K cd435 "Database.__getitem__" = true)
    (k435 : PySem.W.keepIn K (.ref f432) = true)
    (q437 : PySem.W.findIn K (.ref C338) "__contains__" = some (some (.ref f436)))
    (q438 : PySem.W.isFn K (.ref f436) = true)
    (l439 : K.lookup f436 = some ⟨oc439, od439, .func (PySem.W.fnOf "__contains__" "Database.__contains__" (defArgs s_DatabaseU_containsU) (defBody s_DatabaseU_containsU) (defScope s_DatabaseU_containsU) .none kV439 dc439 pm439 an439 cd439 ct439), sl439⟩)
    (c439 : PySem.W.codeIn K cd439 "Database.__contains__" = true)
    (k439 : PySem.W.keepIn K (.ref f436) = true)
    (q441 : PySem.W.findIn K (.ref C338) "kept_values" = some (some (.ref f440)))
    (q442 : PySem.W.isFn K (.ref f440) = true)
    (l443 : K.lookup f440 = some ⟨oc443, od443, .func (PySem.W.fnOf "kept_values" "Database.kept_values" (defArgs s_Database_kept_values) (defBody s_Database_kept_values) (defScope s_Database_kept_values) .none kV443 dc443 pm443 an443 cd443 ct443), sl443⟩)
    (c443 : PySem.W.codeIn K cd443 "Database.kept_values" = true)
    (k443 : PySem.W.keepIn K (.ref f440) = true)
    (q445 : PySem.W.findIn K (.ref C338) "fates" = some (some (.ref f444)))
    (q446 : PySem.W.isFn K (.ref f444) = true)
    (l447 : K.lookup f444 = some ⟨oc447, od447, .func (PySem.W.fnOf "fates" "Database.fates" (defArgs s_Database_fates) (defBody s_Database_fates) (defScope s_Database_fates) .none kV447 dc447 pm447 an447 cd447 ct447), sl447⟩)
    (c447 : PySem.W.codeIn K cd447 "Database.fates" = true)
    (k447 : PySem.W.keepIn K (.ref f444) = true)
    (q451 : PySem.W.findIn K (.ref C338) "is_open" = some (some (.ref p449)))
    (q452 : PySem.W.specialIn K (.ref p449) "__get__" = some (some (.builtin "property.__get__")))
    (q453 : PySem.W.takesIn K (.ref p449) = some true)
    (q454 : PySem.W.recIn K p449 "property" = some (.ref f448 :: rs450))
    (l455 : K.lookup f448 = some ⟨oc455, od455, .func (PySem.W.fnOf "is_open" "Database.is_open" (defArgs s_Database_is_open) (defBody s_Database_is_open) (defScope s_Database_is_open) .none kV455 dc455 pm455 an455 cd455 ct455), sl455⟩)
    (c455 : PySem.W.codeIn K cd455 "Database.is_open" = true)
    (k455 : PySem.W.keepIn K (.ref f448) = true)
    (q459 : PySem.W.findIn K (.ref C338) "is_doomed" = some (some (.ref p457)))
    (q460 : PySem.W.specialIn K (.ref p457) "__get__" = some (some (.builtin "property.__get__")))
    (q461 : PySem.W.takesIn K (.ref p457) = some true)
    (q462 : PySem.W.recIn K p457 "property" = some (.ref f456 :: rs458))
    (l463 : K.lookup f456 = some ⟨oc463, od463, .func (PySem.W.fnOf "is_doomed" "Database.is_doomed" (defArgs s_Database_is_doomed) (defBody s_Database_is_doomed) (defScope s_Database_is_doomed) .none kV463 dc463 pm463 an463 cd463 ct463), sl463⟩)
    (c463 : PySem.W.codeIn K cd463 "Database.is_doomed" = true)
    (k463 : PySem.W.keepIn K (.ref f456) = true)
    (q467 : PySem.W.findIn K (.ref C338) "reason" = some (some (.ref p465)))
    (q468 : PySem.W.specialIn K (.ref p465) "__get__" = some (some (.builtin "property.__get__")))
    (q469 : PySem.W.takesIn K (.ref p465) = some true)
    (q470 : PySem.W.recIn K p465 "property" = some (.ref f464 :: rs466))
    (l471 : K.lookup f464 = some ⟨oc471, od471, .func (PySem.W.fnOf "reason" "Database.reason" (defArgs s_Database_reason) (defBody s_Database_reason) (defScope s_Database_reason) .none kV471 dc471 pm471 an471 cd471 ct471), sl471⟩)
    (c471 : PySem.W.codeIn K cd471 "Database.reason" = true)
    (k471 : PySem.W.keepIn K (.ref f464) = true)
    (q475 : PySem.W.findIn K (.ref C338) "levels" = some (some (.ref p473)))
    (q476 : PySem.W.specialIn K (.ref p473) "__get__" = some (some (.builtin "property.__get__")))
    (q477 : PySem.W.takesIn K (.ref p473) = some true)
    (q478 : PySem.W.recIn K p473 "property" = some (.ref f472 :: rs474))
    (l479 : K.lookup f472 = some ⟨oc479, od479, .func (PySem.W.fnOf "levels" "Database.levels" (defArgs s_Database_levels) (defBody s_Database_levels) (defScope s_Database_levels) .none kV479 dc479 pm479 an479 cd479 ct479), sl479⟩)
    (c479 : PySem.W.codeIn K cd479 "Database.levels" = true)
    (k479 : PySem.W.keepIn K (.ref f472) = true)
    (q483 : PySem.W.findIn K (.ref C338) "depth" = some (some (.ref p481)))
    (q484 : PySem.W.specialIn K (.ref p481) "__get__" = some (some (.builtin "property.__get__")))
    (q485 : PySem.W.takesIn K (.ref p481) = some true)
    (q486 : PySem.W.recIn K p481 "property" = some (.ref f480 :: rs482))
    (l487 : K.lookup f480 = some ⟨oc487, od487, .func (PySem.W.fnOf "depth" "Database.depth" (defArgs s_Database_depth) (defBody s_Database_depth) (defScope s_Database_depth) .none kV487 dc487 pm487 an487 cd487 ct487), sl487⟩)
    (c487 : PySem.W.codeIn K cd487 "Database.depth" = true)
    (k487 : PySem.W.keepIn K (.ref f480) = true)
    (z488 : PySem.W.noSeq K C338 = true)
    (a490 : PySem.W.nsIn K mainGlobals "_law_pool" = some (some (.ref f489)))
    (l491 : K.lookup f489 = some ⟨oc491, od491, .func (PySem.W.fnOf "_law_pool" "_law_pool" (defArgs s_law_pool) (defBody s_law_pool) (defScope s_law_pool) .none kV491 dc491 pm491 an491 cd491 ct491), sl491⟩)
    (c491 : PySem.W.codeIn K cd491 "_law_pool" = true)
    (k491 : PySem.W.keepIn K (.ref f489) = true)
    (a493 : PySem.W.nsIn K mainGlobals "_law_draw" = some (some (.ref f492)))
    (l494 : K.lookup f492 = some ⟨oc494, od494, .func (PySem.W.fnOf "_law_draw" "_law_draw" (defArgs s_law_draw) (defBody s_law_draw) (defScope s_law_draw) .none kV494 dc494 pm494 an494 cd494 ct494), sl494⟩)
    (c494 : PySem.W.codeIn K cd494 "_law_draw" = true)
    (k494 : PySem.W.keepIn K (.ref f492) = true)
    (a496 : PySem.W.nsIn K mainGlobals "_law_word" = some (some (.ref f495)))
    (l497 : K.lookup f495 = some ⟨oc497, od497, .func (PySem.W.fnOf "_law_word" "_law_word" (defArgs s_law_word) (defBody s_law_word) (defScope s_law_word) .none kV497 dc497 pm497 an497 cd497 ct497), sl497⟩)
    (c497 : PySem.W.codeIn K cd497 "_law_word" = true)
    (k497 : PySem.W.keepIn K (.ref f495) = true)
    (a499 : PySem.W.nsIn K mainGlobals "_law_seen" = some (some (.ref f498)))
    (l500 : K.lookup f498 = some ⟨oc500, od500, .func (PySem.W.fnOf "_law_seen" "_law_seen" (defArgs s_law_seen) (defBody s_law_seen) (defScope s_law_seen) .none kV500 dc500 pm500 an500 cd500 ct500), sl500⟩)
    (c500 : PySem.W.codeIn K cd500 "_law_seen" = true)
    (k500 : PySem.W.keepIn K (.ref f498) = true)
    (a502 : PySem.W.nsIn K mainGlobals "_law_single" = some (some (.ref f501)))
    (l503 : K.lookup f501 = some ⟨oc503, od503, .func (PySem.W.fnOf "_law_single" "_law_single" (defArgs s_law_single) (defBody s_law_single) (defScope s_law_single) .none kV503 dc503 pm503 an503 cd503 ct503), sl503⟩)
    (c503 : PySem.W.codeIn K cd503 "_law_single" = true)
    (k503 : PySem.W.keepIn K (.ref f501) = true)
    (a505 : PySem.W.nsIn K mainGlobals "_law_enter" = some (some (.ref f504)))
    (l506 : K.lookup f504 = some ⟨oc506, od506, .func (PySem.W.fnOf "_law_enter" "_law_enter" (defArgs s_law_enter) (defBody s_law_enter) (defScope s_law_enter) .none kV506 dc506 pm506 an506 cd506 ct506), sl506⟩)
    (c506 : PySem.W.codeIn K cd506 "_law_enter" = true)
    (k506 : PySem.W.keepIn K (.ref f504) = true)
    (a508 : PySem.W.nsIn K mainGlobals "_law_other" = some (some (.ref f507)))
    (l509 : K.lookup f507 = some ⟨oc509, od509, .func (PySem.W.fnOf "_law_other" "_law_other" (defArgs s_law_other) (defBody s_law_other) (defScope s_law_other) .none kV509 dc509 pm509 an509 cd509 ct509), sl509⟩)
    (c509 : PySem.W.codeIn K cd509 "_law_other" = true)
    (k509 : PySem.W.keepIn K (.ref f507) = true)
    (a511 : PySem.W.nsIn K mainGlobals "_law_built" = some (some (.ref f510)))
    (l512 : K.lookup f510 = some ⟨oc512, od512, .func (PySem.W.fnOf "_law_built" "_law_built" (defArgs s_law_built) (defBody s_law_built) (defScope s_law_built) .none kV512 dc512 pm512 an512 cd512 ct512), sl512⟩)
    (c512 : PySem.W.codeIn K cd512 "_law_built" = true)
    (k512 : PySem.W.keepIn K (.ref f510) = true)
    (a514 : PySem.W.nsIn K mainGlobals "_law_wrong" = some (some (.ref f513)))
    (l515 : K.lookup f513 = some ⟨oc515, od515, .func (PySem.W.fnOf "_law_wrong" "_law_wrong" (defArgs s_law_wrong) (defBody s_law_wrong) (defScope s_law_wrong) .none kV515 dc515 pm515 an515 cd515 ct515), sl515⟩)
    (c515 : PySem.W.codeIn K cd515 "_law_wrong" = true)
    (k515 : PySem.W.keepIn K (.ref f513) = true)
    (l516 : K.lookup f0 = some ⟨oc516, od516, .func (PySem.W.fnOf "law" "law" (defArgs s_law) (defBody s_law) (defScope s_law) .none kV516 dc516 pm516 an516 cd516 ct516), sl516⟩)
    (c516 : PySem.W.codeIn K cd516 "law" = true)
    (k516 : PySem.W.keepIn K (.ref f0) = true)
    (z517 : PySem.W.nsIn K mainGlobals "isinstance" = some none)
    (z518 : PySem.W.nsIn K mainGlobals "str" = some none)
    (z519 : PySem.W.nsIn K mainGlobals "len" = some none)
    (z520 : PySem.W.nsIn K mainGlobals "super" = some none)
    (z521 : PySem.W.nsIn K mainGlobals "sorted" = some none)
    (z522 : PySem.W.nsIn K mainGlobals "abs" = some none)
    (z523 : PySem.W.nsIn K mainGlobals "int" = some none)
    (z524 : PySem.W.nsIn K mainGlobals "range" = some none)
    (z525 : PySem.W.nsIn K mainGlobals "repr" = some none)
    (z526 : PySem.W.nsIn K mainGlobals "list" = some none)
    (z527 : PySem.W.nsIn K mainGlobals "sum" = some none)
    (z528 : PySem.W.nsIn K mainGlobals "ValueError" = some none)
    (z529 : PySem.W.nsIn K mainGlobals "max" = some none)
    (z530 : PySem.W.nsIn K mainGlobals "min" = some none)
    (z531 : PySem.W.fnIn K f432 = true)
    (a538 : PySem.W.nsIn K mainGlobals "InnercommitsError" = some (some (.ref C537)))
    (z532 : kitAll K [C248, C223, C97, C45, C148, C198, C71, C273, C123, C172] = true)
    (z533 : kitBase K C537 [C248, C223, C97, C45, C148, C198, C71, C273, C123, C172] = true)
    (z534 : exkAll K [C248, C223, C97, C45, C148, C198, C71, C273, C123, C172] = true)
    (z535 : PySem.W.specialIn K (.builtin "object.__class__") "__get__" = some (some (.builtin "getset_descriptor.__get__")))
    (z536 : PySem.W.takesIn K (.builtin "object.__class__") = some true)
    : ∃ fd : FuncData, (∀ (s : Shared) (v : Value), BindsTo s fd ⟨[v], []⟩ [("_law_script", v)]) ∧ ∀ base : Heap, K.In base → base.Ns mainGlobals mg → FnG P w K mg base CX0 9 fa fd ["_law_script"] (spLaw K) := by
  have e := hfa0.symm.trans (PySem.W.mg_of X G a0)
  cases e
  exact all_mk X G hfa0 a2 r3 s4 z5 z7 z9 z11 z13 z15 z17 z19 z21 l23 z37 r38 l40 c40 k40 a42 l43 c43 k43 z44 a46 e49 e50 e51 e52 e53 e54 e55 e56 e57 e58 e59 e60 e61 e62 e63 e64 e65 e66 e67 e68 e69 e70 a72 e75 e76 e77 e78 e79 e80 e81 e82 e83 e84 e85 e86 e87 e88 e89 e90 e91 e92 e93 e94 e95 e96 a98 e101 e102 e103 e104 e105 e106 e107 e108 e109 e110 e111 e112 e113 e114 e115 e116 e117 e118 e119 e120 e121 e122 a124 e127 e128 e129 e130 e131 e132 e133 e134 e135 e136 e137 e138 e139 e140 e141 e142 e143 e144 e145 e146 e147 a149 e152 e153 e154 e155 e156 e157 e158 e159 e160 e161 e162 e163 e164 e165 e166 e167 e168 e169 e170 e171 a173 e176 e177 e178 e179 e180 e181 e182 e183 e184 e185 e186 e187 e188 e189 e190 e191 e192 e193 e194 e195 e196 e197 a199 e202 e203 e204 e205 e206 e207 e208 e209 e210 e211 e212 e213 e214 e215 e216 e217 e218 e219 e220 e221 e222 a224 e227 e228 e229 e230 e231 e232 e233 e234 e235 e236 e237 e238 e239 e240 e241 e242 e243 e244 e245 e246 e247 a249 e252 e253 e254 e255 e256 e257 e258 e259 e260 e261 e262 e263 e264 e265 e266 e267 e268 e269 e270 e271 e272 a274 e277 e278 e279 e280 e281 e282 e283 e284 e285 e286 e287 e288 e289 e290 e291 e292 e293 e294 e295 e296 e297 z298 z299 z300 z301 z302 z303 z304 z305 z306 a308 q309 q310 q311 q312 z313 z314 z315 z316 z317 q319 q320 q321 q322 l323 c323 k323 a325 q326 q327 q328 q329 z330 z331 q333 q334 q335 q336 l337 c337 k337 a339 q340 q341 q342 q343 z344 z345 z346 z347 z348 q350 q351 q352 q353 l354 c354 k354 q356 q357 l358 c358 k358 q360 q361 l362 c362 k362 q364 q365 l366 c366 k366 q368 q369 l370 c370 k370 q372 q373 l374 c374 k374 lT381 q383 q384 l385 c385 k385 q387 q388 l389 c389 k389 q391 q392 l393 c393 k393 lT400 z403 q405 q406 l407 c407 k407 q409 q410 l411 c411 k411 q413 q414 l415 c415 k415 q417 q418 l419 c419 k419 q421 q422 l423 c423 k423 q425 q426 l427 c427 k427 q429 q430 l431 c431 k431 q433 q434 l435 c435 k435 q437 q438 l439 c439 k439 q441 q442 l443 c443 k443 q445 q446 l447 c447 k447 q451 q452 q453 q454 l455 c455 k455 q459 q460 q461 q462 l463 c463 k463 q467 q468 q469 q470 l471 c471 k471 q475 q476 q477 q478 l479 c479 k479 q483 q484 q485 q486 l487 c487 k487 z488 a490 l491 c491 k491 a493 l494 c494 k494 a496 l497 c497 k497 a499 l500 c500 k500 a502 l503 c503 k503 a505 l506 c506 k506 a508 l509 c509 k509 a511 l512 c512 k512 a514 l515 c515 k515 l516 c516 k516 z517 z518 z519 z520 z521 z522 z523 z524 z525 z526 z527 z528 z529 z530 z531 a538 z532 z533 z534 z535 z536
end Ic
open PySem PySem.W PyProof.Rows
set_option maxRecDepth 100000 in
set_option maxHeartbeats 0 in
theorem PySem.Challenge.cw_innercommits_k06_refused_calls_change_no_holds : PySem.Challenge.rw_innercommits_k06_refused_calls_change_no.Holds := by
  w_on; o_law; k_head; (case hw => w_witness2)
  k_fill
  refine Ic.walk_ofBG (l := PySem.Challenge.rw_innercommits_k06_refused_calls_change_no) (n := 63) (k := 9) (x := "_law_script") (CX := fun _ => L2.CX0) (sp := fun w => Ic.spLaw _) rfl (by decide) rfl (by decide +kernel) ⟨rfl, by decide, by decide⟩ (fun w h Y => PySem.W.kIn_of Y) ?F (fun _ _ a ns hl _ _ hS => ⟨a, ns, rfl, hS, hl, fun _ => rfl⟩) (fun _ _ _ _ _ h => h)
  case F =>
    intro w mg fa h KX G hmg
    refine' Ic.all_mk' KX G hmg ?a0 ?a2 ?r3 ?s4 ?z5 ?z7 ?z9 ?z11 ?z13 ?z15 ?z17 ?z19 ?z21 ?l23 ?z37 ?r38 ?l40 ?c40 ?k40 ?a42 ?l43 ?c43 ?k43 ?z44 ?a46 ?e49 ?e50 ?e51 ?e52 ?e53 ?e54 ?e55 ?e56 ?e57 ?e58 ?e59 ?e60 ?e61 ?e62 ?e63 ?e64 ?e65 ?e66 ?e67 ?e68 ?e69 ?e70 ?a72 ?e75 ?e76 ?e77 ?e78 ?e79 ?e80 ?e81 ?e82 ?e83 ?e84 ?e85 ?e86 ?e87 ?e88 ?e89 ?e90 ?e91 ?e92 ?e93 ?e94 ?e95 ?e96 ?a98 ?e101 ?e102 ?e103 ?e104 ?e105 ?e106 ?e107 ?e108 ?e109 ?e110 ?e111 ?e112 ?e113 ?e114 ?e115 ?e116 ?e117 ?e118 ?e119 ?e120 ?e121 ?e122 ?a124 ?e127 ?e128 ?e129 ?e130 ?e131 ?e132 ?e133 ?e134 ?e135 ?e136 ?e137 ?e138 ?e139 ?e140 ?e141 ?e142 ?e143 ?e144 ?e145 ?e146 ?e147 ?a149 ?e152 ?e153 ?e154 ?e155 ?e156 ?e157 ?e158 ?e159 ?e160 ?e161 ?e162 ?e163 ?e164 ?e165 ?e166 ?e167 ?e168 ?e169 ?e170 ?e171 ?a173 ?e176 ?e177 ?e178 ?e179 ?e180 ?e181 ?e182 ?e183 ?e184 ?e185 ?e186 ?e187 ?e188 ?e189 ?e190 ?e191 ?e192 ?e193 ?e194 ?e195 ?e196 ?e197 ?a199 ?e202 ?e203 ?e204 ?e205 ?e206 ?e207 ?e208 ?e209 ?e210 ?e211 ?e212 ?e213 ?e214 ?e215 ?e216 ?e217 ?e218 ?e219 ?e220 ?e221 ?e222 ?a224 ?e227 ?e228 ?e229 ?e230 ?e231 ?e232 ?e233 ?e234 ?e235 ?e236 ?e237 ?e238 ?e239 ?e240 ?e241 ?e242 ?e243 ?e244 ?e245 ?e246 ?e247 ?a249 ?e252 ?e253 ?e254 ?e255 ?e256 ?e257 ?e258 ?e259 ?e260 ?e261 ?e262 ?e263 ?e264 ?e265 ?e266 ?e267 ?e268 ?e269 ?e270 ?e271 ?e272 ?a274 ?e277 ?e278 ?e279 ?e280 ?e281 ?e282 ?e283 ?e284 ?e285 ?e286 ?e287 ?e288 ?e289 ?e290 ?e291 ?e292 ?e293 ?e294 ?e295 ?e296 ?e297 ?z298 ?z299 ?z300 ?z301 ?z302 ?z303 ?z304 ?z305 ?z306 ?a308 ?q309 ?q310 ?q311 ?q312 ?z313 ?z314 ?z315 ?z316 ?z317 ?q319 ?q320 ?q321 ?q322 ?l323 ?c323 ?k323 ?a325 ?q326 ?q327 ?q328 ?q329 ?z330 ?z331 ?q333 ?q334 ?q335 ?q336 ?l337 ?c337 ?k337 ?a339 ?q340 ?q341 ?q342 ?q343 ?z344 ?z345 ?z346 ?z347 ?z348 ?q350 ?q351 ?q352 ?q353 ?l354 ?c354 ?k354 ?q356 ?q357 ?l358 ?c358 ?k358 ?q360 ?q361 ?l362 ?c362 ?k362 ?q364 ?q365 ?l366 ?c366 ?k366 ?q368 ?q369 ?l370 ?c370 ?k370 ?q372 ?q373 ?l374 ?c374 ?k374 ?lT381 ?q383 ?q384 ?l385 ?c385 ?k385 ?q387 ?q388 ?l389 ?c389 ?k389 ?q391 ?q392 ?l393 ?c393 ?k393 ?lT400 ?z403 ?q405 ?q406 ?l407 ?c407 ?k407 ?q409 ?q410 ?l411 ?c411 ?k411 ?q413 ?q414 ?l415 ?c415 ?k415 ?q417 ?q418 ?l419 ?c419 ?k419 ?q421 ?q422 ?l423 ?c423 ?k423 ?q425 ?q426 ?l427 ?c427 ?k427 ?q429 ?q430 ?l431 ?c431 ?k431 ?q433 ?q434 ?l435 ?c435 ?k435 ?q437 ?q438 ?l439 ?c439 ?k439 ?q441 ?q442 ?l443 ?c443 ?k443 ?q445 ?q446 ?l447 ?c447 ?k447 ?q451 ?q452 ?q453 ?q454 ?l455 ?c455 ?k455 ?q459 ?q460 ?q461 ?q462 ?l463 ?c463 ?k463 ?q467 ?q468 ?q469 ?q470 ?l471 ?c471 ?k471 ?q475 ?q476 ?q477 ?q478 ?l479 ?c479 ?k479 ?q483 ?q484 ?q485 ?q486 ?l487 ?c487 ?k487 ?z488 ?a490 ?l491 ?c491 ?k491 ?a493 ?l494 ?c494 ?k494 ?a496 ?l497 ?c497 ?k497 ?a499 ?l500 ?c500 ?k500 ?a502 ?l503 ?c503 ?k503 ?a505 ?l506 ?c506 ?k506 ?a508 ?l509 ?c509 ?k509 ?a511 ?l512 ?c512 ?k512 ?a514 ?l515 ?c515 ?k515 ?l516 ?c516 ?k516 ?z517 ?z518 ?z519 ?z520 ?z521 ?z522 ?z523 ?z524 ?z525 ?z526 ?z527 ?z528 ?z529 ?z530 ?z531 ?a538 ?z532 ?z533 ?z534 ?z535 ?z536
    (case a0 => k_is)
    (case a2 => k_is)
    (case r3 => k_is)
    (case s4 => k_is)
    (case z5 => k_is)
    (case z7 => k_is)
    (case z9 => k_is)
    (case z11 => k_is)
    (case z13 => k_is)
    (case z15 => k_is)
    (case z17 => k_is)
    (case z19 => k_is)
    (case z21 => k_is)
    (case l23 => k_is)
    (case z37 => k_is)
    (case r38 => k_is)
    (case l40 => k_is)
    (case c40 => k_is)
    (case k40 => k_is)
    (case a42 => k_is)
    (case l43 => k_is)
    (case c43 => k_is)
    (case k43 => k_is)
    (case z44 => k_is)
    (case a46 => k_is)
    (case e49 => k_is)
    (case e50 => kernel_rfl)
    (case e51 => k_is)
    (case e52 => k_is)
    (case e53 => k_is)
    (case e54 => k_is)
    (case e55 => k_is)
    (case e56 => k_is)
    (case e57 => k_is)
    (case e58 => k_is)
    (case e59 => k_is)
    (case e60 => k_is)
    (case e61 => kernel_rfl)
    (case e62 => k_is)
    (case e63 => kernel_rfl)
    (case e64 => k_is)
    (case e65 => k_is)
    (case e66 => k_is)
    (case e67 => exact rfl)
    (case e68 => k_is)
    (case e69 => k_is)
    (case e70 => k_is)
    (case a72 => k_is)
    (case e75 => k_is)
    (case e76 => kernel_rfl)
    (case e77 => k_is)
    (case e78 => k_is)
    (case e79 => k_is)
    (case e80 => k_is)
    (case e81 => k_is)
    (case e82 => k_is)
    (case e83 => k_is)
    (case e84 => k_is)
    (case e85 => k_is)
    (case e86 => k_is)
    (case e87 => kernel_rfl)
    (case e88 => k_is)
    (case e89 => kernel_rfl)
    (case e90 => k_is)
    (case e91 => k_is)
    (case e92 => k_is)
    (case e93 => exact rfl)
    (case e94 => k_is)
    (case e95 => k_is)
    (case e96 => k_is)
    (case a98 => k_is)
    (case e101 => k_is)
    (case e102 => kernel_rfl)
    (case e103 => k_is)
    (case e104 => k_is)
    (case e105 => k_is)
    (case e106 => k_is)
    (case e107 => k_is)
    (case e108 => k_is)
    (case e109 => k_is)
    (case e110 => k_is)
    (case e111 => k_is)
    (case e112 => k_is)
    (case e113 => kernel_rfl)
    (case e114 => k_is)
    (case e115 => kernel_rfl)
    (case e116 => k_is)
    (case e117 => k_is)
    (case e118 => k_is)
    (case e119 => exact rfl)
    (case e120 => k_is)
    (case e121 => k_is)
    (case e122 => k_is)
    (case a124 => k_is)
    (case e127 => k_is)
    (case e128 => kernel_rfl)
    (case e129 => k_is)
    (case e130 => k_is)
    (case e131 => k_is)
    (case e132 => k_is)
    (case e133 => k_is)
    (case e134 => k_is)
    (case e135 => k_is)
    (case e136 => k_is)
    (case e137 => k_is)
    (case e138 => k_is)
    (case e139 => kernel_rfl)
    (case e140 => k_is)
    (case e141 => kernel_rfl)
    (case e142 => k_is)
    (case e143 => k_is)
    (case e144 => k_is)
    (case e145 => exact rfl)
    (case e146 => k_is)
    (case e147 => k_is)
    (case a149 => k_is)
    (case e152 => k_is)
    (case e153 => kernel_rfl)
    (case e154 => k_is)
    (case e155 => k_is)
    (case e156 => k_is)
    (case e157 => k_is)
    (case e158 => k_is)
    (case e159 => k_is)
    (case e160 => k_is)
    (case e161 => k_is)
    (case e162 => k_is)
    (case e163 => k_is)
    (case e164 => kernel_rfl)
    (case e165 => k_is)
    (case e166 => kernel_rfl)
    (case e167 => k_is)
    (case e168 => k_is)
    (case e169 => k_is)
    (case e170 => exact rfl)
    (case e171 => k_is)
    (case a173 => k_is)
    (case e176 => k_is)
    (case e177 => kernel_rfl)
    (case e178 => k_is)
    (case e179 => k_is)
    (case e180 => k_is)
    (case e181 => k_is)
    (case e182 => k_is)
    (case e183 => k_is)
    (case e184 => k_is)
    (case e185 => k_is)
    (case e186 => k_is)
    (case e187 => k_is)
    (case e188 => kernel_rfl)
    (case e189 => k_is)
    (case e190 => kernel_rfl)
    (case e191 => k_is)
    (case e192 => k_is)
    (case e193 => k_is)
    (case e194 => exact rfl)
    (case e195 => k_is)
    (case e196 => k_is)
    (case e197 => k_is)
    (case a199 => k_is)
    (case e202 => k_is)
    (case e203 => kernel_rfl)
    (case e204 => k_is)
    (case e205 => k_is)
    (case e206 => k_is)
    (case e207 => k_is)
    (case e208 => k_is)
    (case e209 => k_is)
    (case e210 => k_is)
    (case e211 => k_is)
    (case e212 => k_is)
    (case e213 => k_is)
    (case e214 => kernel_rfl)
    (case e215 => k_is)
    (case e216 => kernel_rfl)
    (case e217 => k_is)
    (case e218 => k_is)
    (case e219 => k_is)
    (case e220 => exact rfl)
    (case e221 => k_is)
    (case e222 => k_is)
    (case a224 => k_is)
    (case e227 => k_is)
    (case e228 => kernel_rfl)
    (case e229 => k_is)
    (case e230 => k_is)
    (case e231 => k_is)
    (case e232 => k_is)
    (case e233 => k_is)
    (case e234 => k_is)
    (case e235 => k_is)
    (case e236 => k_is)
    (case e237 => k_is)
    (case e238 => k_is)
    (case e239 => kernel_rfl)
    (case e240 => k_is)
    (case e241 => kernel_rfl)
    (case e242 => k_is)
    (case e243 => k_is)
    (case e244 => k_is)
    (case e245 => exact rfl)
    (case e246 => k_is)
    (case e247 => k_is)
    (case a249 => k_is)
    (case e252 => k_is)
    (case e253 => kernel_rfl)
    (case e254 => k_is)
    (case e255 => k_is)
    (case e256 => k_is)
    (case e257 => k_is)
    (case e258 => k_is)
    (case e259 => k_is)
    (case e260 => k_is)
    (case e261 => k_is)
    (case e262 => k_is)
    (case e263 => k_is)
    (case e264 => kernel_rfl)
    (case e265 => k_is)
    (case e266 => kernel_rfl)
    (case e267 => k_is)
    (case e268 => k_is)
    (case e269 => k_is)
    (case e270 => exact rfl)
    (case e271 => k_is)
    (case e272 => k_is)
    (case a274 => k_is)
    (case e277 => k_is)
    (case e278 => kernel_rfl)
    (case e279 => k_is)
    (case e280 => k_is)
    (case e281 => k_is)
    (case e282 => k_is)
    (case e283 => k_is)
    (case e284 => k_is)
    (case e285 => k_is)
    (case e286 => k_is)
    (case e287 => k_is)
    (case e288 => k_is)
    (case e289 => kernel_rfl)
    (case e290 => k_is)
    (case e291 => kernel_rfl)
    (case e292 => k_is)
    (case e293 => k_is)
    (case e294 => k_is)
    (case e295 => exact rfl)
    (case e296 => k_is)
    (case e297 => k_is)
    (case z298 => kernel_rfl)
    (case z299 => kernel_rfl)
    (case z300 => kernel_rfl)
    (case z301 => kernel_rfl)
    (case z302 => kernel_rfl)
    (case z303 => kernel_rfl)
    (case z304 => kernel_rfl)
    (case z305 => kernel_rfl)
    (case z306 => kernel_rfl)
    (case a308 => k_is)
    (case q309 => k_is)
    (case q310 => k_is)
    (case q311 => k_is)
    (case q312 => k_is)
    (case z313 => k_is)
    (case z314 => k_is)
    (case z315 => k_is)
    (case z316 => k_is)
    (case z317 => k_is)
    (case q319 => k_is)
    (case q320 => k_is)
    (case q321 => k_is)
    (case q322 => k_is)
    (case l323 => k_is)
    (case c323 => k_is)
    (case k323 => k_is)
    (case a325 => k_is)
    (case q326 => k_is)
    (case q327 => k_is)
    (case q328 => k_is)
    (case q329 => k_is)
    (case z330 => k_is)
    (case z331 => k_is)
    (case q333 => k_is)
    (case q334 => k_is)
    (case q335 => k_is)
    (case q336 => k_is)
    (case l337 => k_is)
    (case c337 => k_is)
    (case k337 => k_is)
    (case a339 => k_is)
    (case q340 => k_is)
    (case q341 => k_is)
    (case q342 => k_is)
    (case q343 => k_is)
    (case z344 => k_is)
    (case z345 => k_is)
    (case z346 => k_is)
    (case z347 => k_is)
    (case z348 => k_is)
    (case q350 => k_is)
    (case q351 => k_is)
    (case q352 => k_is)
    (case q353 => k_is)
    (case l354 => k_is)
    (case c354 => k_is)
    (case k354 => k_is)
    (case q356 => k_is)
    (case q357 => k_is)
    (case l358 => k_is)
    (case c358 => k_is)
    (case k358 => k_is)
    (case q360 => k_is)
    (case q361 => k_is)
    (case l362 => k_is)
    (case c362 => k_is)
    (case k362 => k_is)
    (case q364 => k_is)
    (case q365 => k_is)
    (case l366 => k_is)
    (case c366 => k_is)
    (case k366 => k_is)
    (case q368 => k_is)
    (case q369 => k_is)
    (case l370 => k_is)
    (case c370 => k_is)
    (case k370 => k_is)
    (case q372 => k_is)
    (case q373 => k_is)
    (case l374 => k_is)
    (case c374 => k_is)
    (case k374 => k_is)
    (case lT381 => k_is)
    (case q383 => k_is)
    (case q384 => k_is)
    (case l385 => k_is)
    (case c385 => k_is)
    (case k385 => k_is)
    (case q387 => k_is)
    (case q388 => k_is)
    (case l389 => k_is)
    (case c389 => k_is)
    (case k389 => k_is)
    (case q391 => k_is)
    (case q392 => k_is)
    (case l393 => k_is)
    (case c393 => k_is)
    (case k393 => k_is)
    (case lT400 => k_is)
    (case z403 => k_is)
    (case q405 => k_is)
    (case q406 => k_is)
    (case l407 => k_is)
    (case c407 => k_is)
    (case k407 => k_is)
    (case q409 => k_is)
    (case q410 => k_is)
    (case l411 => k_is)
    (case c411 => k_is)
    (case k411 => k_is)
    (case q413 => k_is)
    (case q414 => k_is)
    (case l415 => k_is)
    (case c415 => k_is)
    (case k415 => k_is)
    (case q417 => k_is)
    (case q418 => k_is)
    (case l419 => k_is)
    (case c419 => k_is)
    (case k419 => k_is)
    (case q421 => k_is)
    (case q422 => k_is)
    (case l423 => k_is)
    (case c423 => k_is)
    (case k423 => k_is)
    (case q425 => k_is)
    (case q426 => k_is)
    (case l427 => k_is)
    (case c427 => k_is)
    (case k427 => k_is)
    (case q429 => k_is)
    (case q430 => k_is)
    (case l431 => k_is)
    (case c431 => k_is)
    (case k431 => k_is)
    (case q433 => k_is)
    (case q434 => k_is)
    (case l435 => k_is)
    (case c435 => k_is)
    (case k435 => k_is)
    (case q437 => k_is)
    (case q438 => k_is)
    (case l439 => k_is)
    (case c439 => k_is)
    (case k439 => k_is)
    (case q441 => k_is)
    (case q442 => k_is)
    (case l443 => k_is)
    (case c443 => k_is)
    (case k443 => k_is)
    (case q445 => k_is)
    (case q446 => k_is)
    (case l447 => k_is)
    (case c447 => k_is)
    (case k447 => k_is)
    (case q451 => k_is)
    (case q452 => k_is)
    (case q453 => k_is)
    (case q454 => k_is)
    (case l455 => k_is)
    (case c455 => k_is)
    (case k455 => k_is)
    (case q459 => k_is)
    (case q460 => k_is)
    (case q461 => k_is)
    (case q462 => k_is)
    (case l463 => k_is)
    (case c463 => k_is)
    (case k463 => k_is)
    (case q467 => k_is)
    (case q468 => k_is)
    (case q469 => k_is)
    (case q470 => k_is)
    (case l471 => k_is)
    (case c471 => k_is)
    (case k471 => k_is)
    (case q475 => k_is)
    (case q476 => k_is)
    (case q477 => k_is)
    (case q478 => k_is)
    (case l479 => k_is)
    (case c479 => k_is)
    (case k479 => k_is)
    (case q483 => k_is)
    (case q484 => k_is)
    (case q485 => k_is)
    (case q486 => k_is)
    (case l487 => k_is)
    (case c487 => k_is)
    (case k487 => k_is)
    (case z488 => k_is)
    (case a490 => k_is)
    (case l491 => k_is)
    (case c491 => k_is)
    (case k491 => k_is)
    (case a493 => k_is)
    (case l494 => k_is)
    (case c494 => k_is)
    (case k494 => k_is)
    (case a496 => k_is)
    (case l497 => k_is)
    (case c497 => k_is)
    (case k497 => k_is)
    (case a499 => k_is)
    (case l500 => k_is)
    (case c500 => k_is)
    (case k500 => k_is)
    (case a502 => k_is)
    (case l503 => k_is)
    (case c503 => k_is)
    (case k503 => k_is)
    (case a505 => k_is)
    (case l506 => k_is)
    (case c506 => k_is)
    (case k506 => k_is)
    (case a508 => k_is)
    (case l509 => k_is)
    (case c509 => k_is)
    (case k509 => k_is)
    (case a511 => k_is)
    (case l512 => k_is)
    (case c512 => k_is)
    (case k512 => k_is)
    (case a514 => k_is)
    (case l515 => k_is)
    (case c515 => k_is)
    (case k515 => k_is)
    (case l516 => k_is)
    (case c516 => k_is)
    (case k516 => k_is)
    (case z517 => k_is)
    (case z518 => k_is)
    (case z519 => k_is)
    (case z520 => k_is)
    (case z521 => k_is)
    (case z522 => k_is)
    (case z523 => k_is)
    (case z524 => k_is)
    (case z525 => k_is)
    (case z526 => k_is)
    (case z527 => k_is)
    (case z528 => k_is)
    (case z529 => k_is)
    (case z530 => k_is)
    (case z531 => k_is)
    (case a538 => k_is)
    (case z532 => kernel_rfl)
    (case z533 => kernel_rfl)
    (case z534 => kernel_rfl)
    (case z535 => k_is)
    (case z536 => k_is)
#print axioms PySem.Challenge.cw_innercommits_k06_refused_calls_change_no_holds
