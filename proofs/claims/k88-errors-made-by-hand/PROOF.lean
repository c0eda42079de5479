import PyProof.Rows.All
import Wide.All
import OpenK.AllK
import Wide.FinOn
import HandS.ForMost
import HandS.EndBits
import HandS.Wide
import HandS.IsInst
import HandS.Style
import HandS.Walk
import HandS.ClsMeth
import HandS.Conv
import HandS.ForExc
import HandS.ExcInit
import HandS.CallSlots
import HandS.Defaults
import HandS.ExcField
import HandS.Property
import HandS.WordsExc
import HandS.TryMany
import KE.KExcSuper
import HandS.HotCalls
import HandS.Dict
import HandS.Set
import HandS.SetBool
import HandS.SetFor
import HandS.Strs
import HandS.More
import PyProof.Rows.SortShellAny
import PyProof.Rows.SetFrom
import PyProof.Rows.SetObj
import HandS.TryOnly
import HandS.ExcIs
import HandS.ExcValue
import PySem.Challenge.RW_innercommits_k88_errors_made_by_hand

set_option Elab.async false
set_option linter.all false
set_option maxRecDepth 100000
set_option maxHeartbeats 4000000
namespace Ic
open PySem L2
def top (i : Nat) : Stmt := PySem.Challenge.pw_innercommits_k88_errors_made_by_hand.main.body.getD i (.Pass ⟨0, 0, 0, 0⟩)
abbrev P : Program := PySem.Challenge.pw_innercommits_k88_errors_made_by_hand
/-! ### heaps -/
theorem sz_le {n m : Nat} (h : Nat.ble n m = true) : n ≤ m := Nat.le_of_ble_eq_true h
theorem sz_lt {n m : Nat} (h : Nat.blt n m = true) : n < m := Nat.le_of_ble_eq_true h
theorem upd_old {H : Hp} {p a : Addr} {o u : HO} (h : H a = some u) (hp : H p = none) : upd H p o a = some u := by
  rw [upd_ne (ne_of_none h hp)]; exact h
theorem upd_oth {H : Hp} {p a : Addr} {o u : HO} (hn : a ≠ p) (h : H a = some u) : upd H p o a = some u := by
  rw [upd_ne hn]; exact h
theorem cmul_l {i j : Int} (h : (decide (-(2 ^ 64) < i) && decide (i < 2 ^ 64)) = true) : CMul i j := by
  simp only [Bool.and_eq_true, decide_eq_true_eq] at h
  exact .inl h
theorem cmul_r {i j : Int} (h : (decide (-(2 ^ 64) < j) && decide (j < 2 ^ 64)) = true) : CMul i j := by
  simp only [Bool.and_eq_true, decide_eq_true_eq] at h
  exact .inr h
theorem cpow_lit {i j : Int} (h : (decide (0 ≤ j) && decide (j ≤ 1000000) && decide (i.natAbs < 2 ^ 64)) = true) : CPow i j := by
  simp only [Bool.and_eq_true, decide_eq_true_eq] at h
  exact ⟨h.1.1, h.1.2, h.2⟩
theorem cdiv_lit {i j : Int} (h : (decide (0 < j) && decide (j < 1073741824)) = true) : CDivW i j := by
  simp only [Bool.and_eq_true, decide_eq_true_eq] at h
  exact wide_div (b := 40) h.1 (by omega) (by decide) (by decide)
theorem none_upd {H : Hp} {p b : Addr} {o : HO} (h : upd H p o b = none) : b ≠ p ∧ H b = none := by
  by_cases e : b = p
  · rw [e, upd_same] at h; cases h
  · exact ⟨e, by rw [upd_ne e] at h; exact h⟩
/-- all that was tracked, but S, is as it was -/
def Kp (S : Addr → Prop) (H H' : Hp) : Prop := ∀ b u, H b = some u → ¬ S b → H' b = some u
theorem Kp.refl {S : Addr → Prop} {H : Hp} : Kp S H H := fun _ _ h _ => h
theorem Kp.trans {S : Addr → Prop} {H H1 H2 : Hp} (a : Kp S H H1) (b : Kp S H1 H2) : Kp S H H2 := fun c u h n => b c u (a c u h n) n
theorem Kp.new {S : Addr → Prop} {H H1 : Hp} {p : Addr} {o : HO} (a : Kp S H H1) (h : H1 p = none) : Kp S H (upd H1 p o) := fun c u e n => upd_old (a c u e n) h
theorem Kp.set {S : Addr → Prop} {H H1 : Hp} {p : Addr} {o : HO} (a : Kp S H H1) (h : S p) : Kp S H (upd H1 p o) := fun c u e n => upd_oth (fun z => n (z ▸ h)) (a c u e n)
theorem Kp.set1 {H H1 : Hp} {p : Addr} {o : HO} (a : Kp (fun b => b = p) H H1) : Kp (fun b => b = p) H (upd H1 p o) := a.set rfl
/-- p is none of H's -/
theorem Kp.fresh {S : Addr → Prop} {H H1 : Hp} {p : Addr} {o : HO} (a : Kp S H H1) (h : H p = none) : Kp S H (upd H1 p o) := fun c u e n => upd_oth (ne_of_none e h) (a c u e n)
theorem Kp.mono {S S' : Addr → Prop} {H H1 : Hp} (a : Kp S H H1) (h : ∀ b, S b → S' b) : Kp S' H H1 := fun c u e n => a c u e fun z => n (h c z)
theorem Kp.same {S : Addr → Prop} {H H1 H2 : Hp} (a : Same H H1) (b : Kp S H1 H2) (n : ∀ c, S c → H c = none) : Same H H2 := fun c u h => b c u (a c u h) fun z => by
  rw [n c z] at h; cases h
theorem Kp.of_same {S : Addr → Prop} {H H1 : Hp} (a : Same H H1) : Kp S H H1 := fun c u h _ => a c u h
theorem _root_.L2.Same.new {H H1 : Hp} {p : Addr} {o : HO} (a : Same H H1) (h : H1 p = none) : Same H (upd H1 p o) := fun c u e => upd_old (a c u e) h
theorem _root_.L2.Same.frsh {H H1 : Hp} {p : Addr} {o : HO} (a : Same H H1) (h : H p = none) : Same H (upd H1 p o) := fun c u e => upd_oth (ne_of_none e h) (a c u e)
theorem tyV_lst {K : PySem.W.Frag} {H : Hp} {p : Addr} {xs : List V} (h : SqL K H p xs) : tyV K "list" (.ref p) H := .inl ⟨rfl, xs, h⟩
class RdTy (α : Type) : Prop
instance : RdTy V := ⟨⟩
instance : RdTy Int := ⟨⟩
instance : RdTy Nat := ⟨⟩
instance : RdTy Bool := ⟨⟩
instance : RdTy Str := ⟨⟩
instance : RdTy HO := ⟨⟩
instance : RdTy Value := ⟨⟩
instance : RdTy Obj := ⟨⟩
instance {α : Type} : RdTy (List α) := ⟨⟩
instance {α : Type} : RdTy (Array α) := ⟨⟩
instance {α β : Type} : RdTy (Sum α β) := ⟨⟩
theorem exI {α : Type} [RdTy α] {p : α → Prop} (w : α) (h : p w) : Exists p := ⟨w, h⟩
/-! ### the pool -/
def PoolO (o : HO) (c : Nat) : Prop := ∃ a b n : Int, o = .lst [.int a, .int b, .int n] ∧ 0 ≤ a ∧ 0 ≤ b ∧ b < 2 ^ 62 ∧ 0 ≤ n ∧ n ≤ c
def PoolAt (H : Hp) (p : Addr) (c : Nat) : Prop := ∃ o, H p = some o ∧ PoolO o c
theorem PoolO.mono {o : HO} {c d : Nat} (h : PoolO o c) (l : c ≤ d) : PoolO o d := by
  obtain ⟨a, b, n, e, h1, h2, h3, h4, h5⟩ := h
  exact ⟨a, b, n, e, h1, h2, h3, h4, by omega⟩
def spPool (K : PySem.W.Frag) : Sp := fun vs H Q _ => ∃ (a : Addr) (ns : List Int) (i : Nat), vs = [.ref a, .int (i : Int)] ∧ SqL K H a (ns.map V.int) ∧ i < 1000 ∧
  ∀ p o, H p = none → PoolO o 0 → Q (.ref p) (upd H p o)
def spDraw : Sp := fun vs H Q _ => ∃ (p : Addr) (m : Int) (c : Nat) (o : HO), vs = [.ref p, .int m] ∧ H p = some o ∧ PoolO o c ∧ 0 < m ∧ m < 2 ^ 200 ∧ c < 2 ^ 40 ∧
  ∀ r o', 0 ≤ r → r < m → PoolO o' (c + 1) → Q (.int r) (upd H p o')
local macro_rules | `(tactic| walk_at "hp") => `(tactic| first | with_reducible assumption | with_reducible exact upd_same | (with_reducible apply upd_old; (focus (walk_at "hp")); (focus with_reducible assumption)) | (with_reducible apply upd_oth; (focus (first | with_reducible assumption | (with_reducible apply Ne.symm; with_reducible assumption))); walk_at "hp"))
local macro_rules | `(tactic| walk_at "sq") => `(tactic| first | with_reducible assumption | (with_reducible apply SqL.of; walk_at "hp") | (with_reducible apply SqT.of; walk_at "hp"))
local macro_rules | `(tactic| walk_at "side") => `(tactic| first | with_reducible assumption | exact ⟨_, rfl⟩ | walk_at "hp" | walk_at "sq" | (with_reducible apply tyV_lst; walk_at "sq") | (with_reducible apply Or.inl; walk_at "sq") | (with_reducible apply Or.inr; walk_at "sq") | with_reducible exact cmul_l (by decide) | with_reducible exact cmul_r (by decide) | with_reducible exact cpow_lit (by decide) | with_reducible exact cdiv_lit (by decide) | decide | exact sz_le rfl | exact sz_lt rfl | omega)
local macro_rules | `(tactic| walk_at "kp") => `(tactic| first | with_reducible assumption | with_reducible exact Kp.refl | (with_reducible apply Kp.set1; walk_at "kp") | (with_reducible apply Kp.new; (focus (walk_at "kp")); (focus with_reducible assumption)) | (with_reducible apply Kp.fresh; (focus (walk_at "kp")); (focus with_reducible assumption)))
local macro_rules | `(tactic| walk_at "rd1") => `(tactic| first
  | refine And.intro rfl ?_
  | apply exI
  | (refine Or.inl ?_; apply exI; refine And.intro rfl ?_)
  | (refine Or.inr ?_; apply exI; refine And.intro rfl ?_)
  | (refine And.intro ?_ ?_; (focus (walk_at "side"))))
local macro_rules | `(tactic| walk_at "rd") => `(tactic| repeat (walk_at "rd1"))
/-! ### further rules: a staticmethod called off its class, list of a text -/
/-- C.m is a staticmethod: its record at p, its def at f -/
structure SMet (K : PySem.W.Frag) (C : Addr) (mc : Value) (m : Str) (p f : Addr) : Prop where
  at_ : PySem.W.findCls K (.ref C) mc m = some (.get (.builtin "staticmethod.__get__") (.ref p) .none (.ref C))
  rc : ∃ rest, PySem.W.recIn K p "staticmethod" = some (.ref f :: rest)
def tSMeth (C : Addr) (sp : Sp) (dvs : List V) (E : XK) (ta : TE) (t : TA) : TE := fun σ H Q => ta σ H fun x H1 => x = .ref C ∧ t σ H1 fun vs H2 => sp (vs ++ dvs) H2 Q E
theorem pe_smeth {X : Cx} {CX : CXT} {k : Nat} {C p f : Addr} {fd : FuncData} {ps : List Str} {ds : List Value} {dvs : List V} {mc : Value} {sp : Sp} {E : XK} {o e : Expr} {es : List Expr} {m : Str} {pos apos : Pos} {ta : TE} {t : TA} {pl : Sem Bool}
    (he : PE X o ta) (r : ClX.CRead X.K C mc) (c : SMet X.K C mc m p f) (F : FnOk X.prog X.w X.K X.mg X.base CX k f fd ps sp) (hr : Room k X.A) (hk : PySem.W.keepIn X.K (.ref f) = true) (hb : Binds X.K fd ps ds) (hd : Vals dvs ds) (hx : Passes CX X E) (ha : PA X (e :: es) t)
    (hst : starEach (e :: es) X.env = (false, eval e X.env) :: starEach es X.env := by rfl) (hpl : (backTo pos (starEach es X.env)).any (·.1) = false := by rfl)
    (ht : eval (.Call (.Attribute o m apos) (e :: es) [] pos) X.env = (do
      let ov ← eval o X.env
      standAt apos.atName
      let (f, first) ← holding [ov] (getMethod ov m pl)
      callWith pos f first (backTo pos (starEach (e :: es) X.env)) (backToKw pos (keywordEach [] X.env))) := by rfl) :
    PE X (.Call (.Attribute o m apos) (e :: es) [] pos) (tSMeth C sp dvs E ta t) := by
  refine ⟨fun pins s σ H Q I h => ?_⟩
  refine PySem.W.methodCall_KW (pl := pl) (thn (he.run pins s σ H _ I h) fun u s1 ⟨x, H1, I1, rx, ex, q⟩ => ?_) ht
  subst ex
  obtain rfl : u = Value.ref C := rx
  obtain ⟨rest, hp⟩ := c.rc
  refine PySem.W.method_cls I1.kIn r.ga (PySem.W.cls_bind I1.kIn r.rd c.at_ ?_)
  refine wpAny_call (PySem.W.sm_get (s := { s1 with toks := s1.toks + 1 }) I1.kIn hp (PySem.W.handed_on rfl ?_))
  have I2 := I1.tok (s1.toks + 1)
  refine PySem.W.callWith_K (h₀ := X.base) (first := []) I2.ok.mod.kin hk (thn (ha.run pos pins _ σ H1 _ I2 q) fun us s3 ⟨vs, H2, I3, rv, q2⟩ => ⟨I3.kIn, ?_⟩) hst hpl
  exact run_fn F hr hb hd hx I3 rv q2
theorem call_list_text {X : Cx} (hc : X.calm = true) : CallR X (.type "list") (fun xs H Q => ∃ z : Str, xs = [.str z] ∧ z.length ≤ sizeLine ∧ ∀ l, H l = none → Q (.ref l) (upd H l (.lst (z.cps.toList.map fun c => .str ⟨#[c]⟩)))) := by
  intro pins s σ H xs us Q I r h
  obtain ⟨z, rfl, hz, q⟩ := h
  obtain ⟨u, rfl, t, rfl⟩ := vals1 r
  refine call_list_str (I.ok.hd hc) z t (fun h' tk acc c' kp e it => ?_) hz
  have hv : Vals (z.cps.toList.map fun c => V.str ⟨#[c]⟩) acc.toList := by
    refine vals_of_at (by rw [List.length_map, Array.length_toList, Array.length_toList, it.1]) fun j x u e1 e2 => ?_
    rw [Array.getElem?_toList] at e2
    obtain ⟨c, tk, hc1, rfl⟩ := it.2 j u e2
    rw [List.getElem?_map, Array.getElem?_toList, hc1] at e1
    cases e1
    exact ⟨tk, rfl⟩
  refine ⟨.ref s.heap.objs.size, _, I.laid (o := .lst (z.cps.toList.map fun c => V.str ⟨#[c]⟩)) (t' := tk) kp (Nat.le_refl _) ?_, rfl, q _ (I.hok.fresh (Nat.le_refl _))⟩
  exact ⟨by rw [List.length_map, Array.length_toList]; exact hz, acc.toList, c', hv, by simpa using e⟩
/-! ### data: == of lists and tuples -/
theorem eqvAll_nil {ds : List PyData} : PyData.eqvAll ds [] = ds.isEmpty := by
  cases ds <;> rfl
def asc (z : Str) : Prop := ∀ c ∈ z.cps.toList, c < 128
theorem asc_ok {z : Str} (h : asc z) : PyData.strOk z = true := by
  unfold PyData.strOk
  rw [Array.all_eq_true]
  intro i hi
  have := h z.cps[i] (by rw [Array.mem_toList_iff]; exact Array.getElem_mem hi)
  simp; omega
theorem dp_strs {K : PySem.W.Frag} {H : Hp} : ∀ ys : List Str, DpAll K H (ys.map V.str) (ys.map PyData.str)
  | [] => .nil
  | y :: r => .cons (.str y) (dp_strs r)
theorem lay_strs : ∀ {ys : List Str}, (∀ y ∈ ys, asc y) → PyData.canLayAll0 (ys.map PyData.str) = true
  | [], _ => rfl
  | y :: r, h => by
    show (PyData.strOk y && PyData.canLayAll0 (r.map PyData.str)) = true
    rw [asc_ok (h y List.mem_cons_self), lay_strs fun z hz => h z (List.mem_cons_of_mem _ hz)]; rfl
theorem depth_strs : ∀ ys : List Str, PyData.depthAll (ys.map PyData.str) = 0
  | [] => rfl
  | y :: r => by
    show max 0 (PyData.depthAll (r.map PyData.str)) = 0
    rw [depth_strs r]; rfl
theorem shaped_strs {ys : List Str} (h : ∀ y ∈ ys, asc y) : SeqAt.shaped (.list (ys.map PyData.str)) = true := by
  show (PyData.canLayAll0 (ys.map PyData.str) && decide (PyData.depthAll (ys.map PyData.str) + 1 ≤ 64)) = true
  rw [lay_strs h, depth_strs]; rfl
/-! ### letters -/
def Lets (cs : List Nat) : Prop := ∀ c ∈ cs, 97 ≤ c ∧ c ≤ 122
def chr1 (c : Nat) : Str := ⟨#[c]⟩
structure IsWord (w : Str) : Prop where
  lo : 1 ≤ w.cps.toList.length
  hi : w.cps.toList.length ≤ 8
  al : Lets w.cps.toList
def alpha : Str := "abcdefghijklmnopqrstuvwxyz"
theorem alpha_all : ∀ n : Nat, n < 26 → alpha.cps.toList[n]? = some (97 + n) := by
  have h : (List.range 26).all (fun n => decide (alpha.cps.toList[n]? = some (97 + n))) = true := by decide +kernel
  intro n hn
  exact of_decide_eq_true (List.all_eq_true.mp h n (List.mem_range.mpr hn))
theorem alpha_at {r : Int} (h0 : 0 ≤ r) (h1 : r < 26) : atI alpha.cps.toList r = some (97 + r.toNat) := by
  have e : ((r.toNat : Nat) : Int) = r := by omega
  have h := atI_nat (alpha_all r.toNat (by omega))
  rw [e] at h
  exact h
theorem join_chr : ∀ cs : List Nat, Txt.join (Str.ofString "") (cs.map chr1) = ⟨cs.toArray⟩ := by
  intro cs
  show Builtin.Str.glued (Str.ofString "") (cs.map chr1) = _
  rw [StrLaws.glued_eq_join]
  have e0 : (Str.ofString "") = Str.empty := by decide +kernel
  rw [e0]
  induction cs with
  | nil => rfl
  | cons c r ih =>
    cases r with
    | nil => rfl
    | cons b r =>
      show chr1 c ++ Str.empty ++ Str.join Str.empty ((b :: r).map chr1) = _
      rw [ih]
      show (⟨(#[c] ++ #[]) ++ (b :: r).toArray⟩ : Str) = ⟨(c :: b :: r).toArray⟩
      simp
theorem sum_chr : ∀ cs : List Nat, ((cs.map chr1).map (·.length)).sum = cs.length
  | [] => rfl
  | c :: r => by
    show 1 + ((r.map chr1).map (·.length)).sum = r.length + 1
    rw [sum_chr r]; omega
theorem alpha_len : alpha.length ≤ sizeLine := by decide +kernel
/-- [letters[draw(pool, 26)] for k in range(n)] -/
theorem lc_letters {n i0 i1 ik : Nat} {σ : St} {H1 : Hp} {D p : Addr} {o : HO} {c : Nat} {Qd : Hp → Prop} (hD : H1 D = none) (hp : H1 p = some o) (hc : PoolO o c) (hb : c + n < 2 ^ 40) (hn : n < 1000000)
    (s0 : σ[i0]? = some (some (.ref p))) (s1 : σ[i1]? = some (some (.str alpha))) (n0 : i0 ≠ ik) (n1 : i1 ≠ ik)
    (q : ∀ H' cs o', cs.length = n → Lets cs → Kp (fun b => b = p) H1 H' → H' p = some o' → PoolO o' (c + n) → H' D = some (.lst ((cs.map chr1).map V.str)) → Qd H') :
    ∃ W : Nat → Nat → Hp → Prop, (∃ m, W 0 m (upd H1 D (.lst []))) ∧ ∀ i m H, W i m H →
      ((Itr 0 n).stop i H ∧ Qd H) ∨ ((Itr 0 n).go i H ∧ ∃ Nx : Hp → Prop, (∀ H', Nx H' → ∃ m', m' < m ∧ W (i + 1) m' H') ∧ ∀ x H', (Itr 0 n).yld i H x H' → gName ik x (wipe σ [ik]) H' fun σ2 H2 => wipe σ2 [ik] = wipe σ [ik] ∧ tYes σ2 H2 fun b H3 =>
        if b = true then tOp rIxS (tVar i1) (tCall spDraw [] E0 (tCons (tVar i0) (tCons (tC (.int 26)) tNil))) σ2 H3 fun y H4 => ∃ acc, H4 D = some (.lst acc) ∧ acc.length < sizeLine ∧ Nx (upd H4 D (.lst (acc ++ [y]))) else Nx H3) := by
  have npD : p ≠ D := ne_of_none hp hD
  have w0 : ∀ v, ((wipe σ [ik]).set ik (some v))[i0]? = some (some (.ref p)) := fun v => by
    rw [List.getElem?_set_ne (Ne.symm n0), wipe_out (by simp [n0])]; exact s0
  have w1 : ∀ v, ((wipe σ [ik]).set ik (some v))[i1]? = some (some (.str alpha)) := fun v => by
    rw [List.getElem?_set_ne (Ne.symm n1), wipe_out (by simp [n1])]; exact s1
  refine lc_range (fun i H => ∃ cs o', cs.length = i ∧ Lets cs ∧ Kp (fun b => b = p) H1 H ∧ H p = some o' ∧ PoolO o' (c + i) ∧ H D = some (.lst ((cs.map chr1).map V.str))) ?_ ?_ ?_
  · exact ⟨[], o, rfl, (fun _ h => nomatch h), Kp.refl.new hD, upd_old hp hD, hc, upd_same⟩
  · rintro i H hi ⟨cs, o', e1, e2, e3, e4, e5, e6⟩
    refine ⟨?_, ?_⟩
    · show wipe ((wipe σ [ik]).set ik _) [ik] = wipe σ [ik]
      show (((σ.set ik none).set ik _).set ik none) = σ.set ik none
      rw [List.set_set, List.set_set]
    · refine ⟨_, w1 _, _, w0 _, p, 26, c + i, o', rfl, e4, e5, by decide, by decide, by omega, fun r o2 r0 r1 h2 => ?_⟩
      refine ⟨alpha, r, _, rfl, rfl, alpha_len, alpha_at r0 r1, (cs.map chr1).map V.str, upd_oth (Ne.symm npD) e6, ?_, ?_⟩
      · rw [List.length_map, List.length_map, e1, sizeLine_eq]; omega
      · refine ⟨cs ++ [97 + r.toNat], o2, ?_, ?_, ?_, ?_, h2, ?_⟩
        · rw [List.length_append, e1]; rfl
        · intro x hx
          rcases List.mem_append.mp hx with h | h
          · exact e2 x h
          · rw [List.mem_singleton] at h
            subst h
            omega
        · exact (e3.set rfl).fresh hD
        · exact upd_oth npD upd_same
        · rw [upd_same, List.map_append, List.map_append]; rfl
  · rintro H ⟨cs, o', e1, e2, e3, e4, e5, e6⟩
    exact q H cs o' e1 e2 e3 e4 e5 e6
def spWord : Sp := fun vs H Q _ => ∃ (p : Addr) (c : Nat) (o : HO), vs = [.ref p] ∧ H p = some o ∧ PoolO o c ∧ c < 2 ^ 39 ∧
  ∀ w o' H', IsWord w → PoolO o' (c + 9) → H' p = some o' → Kp (fun b => b = p) H H' → Q (.str w) H'
/-! ### words -/
def okC (c : Nat) : Bool := decide (97 ≤ c) && decide (c ≤ 122)
def wordS (z : Str) : Bool := decide (1 ≤ z.length) && decide (z.length ≤ 8) && z.cps.toList.all okC
def wordB : V → Bool
  | .str z => wordS z
  | _ => false
inductive Thing (H : Hp) : V → Prop
  | str (z : Str) (h : z.length ≤ 1000) (ha : asc z) : Thing H (.str z)
  | int (i : Int) : Thing H (.int i)
  | bl (b : Bool) : Thing H (.bl b)
  | non : Thing H .non
  | lst {p : Addr} {xs : List V} (h : H p = some (.lst xs)) : Thing H (.ref p)
  | tup {p : Addr} {xs : List V} (h : H p = some (.tup xs)) : Thing H (.ref p)
theorem Thing.same {H H' : Hp} {v : V} (s : Same H H') (t : Thing H v) : Thing H' v := by
  cases t with
  | str z h ha => exact .str z h ha
  | int i => exact .int i
  | bl b => exact .bl b
  | non => exact .non
  | lst h => exact .lst (s _ _ h)
  | tup h => exact .tup (s _ _ h)
def strB : V → Bool
  | .str _ => true
  | _ => false
theorem Thing.isi {K : PySem.W.Frag} {H : Hp} {v : V} (t : Thing H v) : ∃ ty, TyX K H v ty ∧ PySem.W.kitOne K ty (.type "str") = some (strB v) := by
  cases t with
  | str z h ha => exact ⟨_, .base (.str z), kit_ty (show kitB "str" "str" = some true by decide +kernel)⟩
  | int i => exact ⟨_, .base (.int i), kit_ty (show kitB "int" "str" = some false by decide +kernel)⟩
  | bl b => exact ⟨_, .base (.bl b), kit_ty (show kitB "bool" "str" = some false by decide +kernel)⟩
  | non => exact ⟨_, .base .non, kit_ty (by decide +kernel)⟩
  | lst h => exact ⟨_, .base (.lst h), kit_ty (show kitB "list" "str" = some false by decide +kernel)⟩
  | tup h => exact ⟨_, .base (.tup h), kit_ty (show kitB "tuple" "str" = some false by decide +kernel)⟩
theorem list1_lt (a b : Nat) : ([a] : List Nat) < [b] ↔ a < b := by
  constructor
  · intro h
    cases h with
    | rel h => exact h
    | cons h => cases h
  · intro h
    exact .rel h
theorem le_a (c : Nat) : (!decide ((⟨#[c]⟩ : Str).cps.toList < (Str.ofString "a").cps.toList)) = decide (97 ≤ c) := by
  have e : (Str.ofString "a").cps.toList = [97] := by decide +kernel
  rw [e, ← decide_not]
  apply decide_eq_decide.mpr
  show ¬ ([c] < [97]) ↔ _
  rw [list1_lt]; omega
theorem le_z (c : Nat) : (!decide ((Str.ofString "z").cps.toList < (⟨#[c]⟩ : Str).cps.toList)) = decide (c ≤ 122) := by
  have e : (Str.ofString "z").cps.toList = [122] := by decide +kernel
  rw [e, ← decide_not]
  apply decide_eq_decide.mpr
  show ¬ ([122] < [c]) ↔ _
  rw [list1_lt]; omega
theorem all_take {α : Type} {p : α → Bool} {l : List α} {i : Nat} {x : α} (h : l[i]? = some x) (a : (l.take i).all p = true) (b : p x = true) : (l.take (i + 1)).all p = true := by
  rw [List.take_add_one, h, List.all_append, a, Bool.true_and]
  show ([x] : List α).all p = true
  rw [List.all_cons, b]; rfl
theorem all_no {α : Type} {p : α → Bool} {l : List α} {i : Nat} {x : α} (h : l[i]? = some x) (b : p x = false) : l.all p = false := by
  cases e : l.all p with
  | false => rfl
  | true =>
    rw [List.all_eq_true.mp e x (List.mem_of_getElem? h)] at b
    cases b
theorem len_toList (z : Str) : z.cps.toList.length = z.length := by simp [Str.length]
theorem IsWord.ok {w : Str} (h : IsWord w) : wordS w = true := by
  unfold wordS
  rw [← len_toList, decide_eq_true h.lo, decide_eq_true h.hi, Bool.true_and, Bool.true_and, List.all_eq_true]
  intro c hc
  have := h.al c hc
  unfold okC
  rw [decide_eq_true this.1, decide_eq_true this.2]; rfl
theorem wordS_of {z : Str} (h : wordS z = true) : IsWord z := by
  unfold wordS at h
  rw [Bool.and_eq_true, Bool.and_eq_true, decide_eq_true_eq, decide_eq_true_eq, List.all_eq_true] at h
  refine ⟨by rw [len_toList]; exact h.1.1, by rw [len_toList]; exact h.1.2, fun c hc => ?_⟩
  have := h.2 c hc
  unfold okC at this
  rw [Bool.and_eq_true, decide_eq_true_eq, decide_eq_true_eq] at this
  exact this
def spIsWord : Sp := fun vs H Q _ => ∃ v, vs = [v] ∧ Thing H v ∧ Q (.bl (wordB v)) H
/-! ### own errors: an __init__ that says super().__init__(text) and stores fields -/
/-- the stores of an __init__: self.F = a parameter | a text -/
inductive Sts (ps : List Str) : List Stmt → List (Str × Sum Nat Str) → Prop
  | nil : Sts ps [] []
  | par {F p : Str} {i : Nat} {q1 q2 q3 q4 : Pos} {r : List Stmt} {fs : List (Str × Sum Nat Str)} (h : ps[i]? = some p) (t : Sts ps r fs) : Sts ps (.Assign [.Attribute (.Name "self" q1) F q2] (.Name p q3) q4 :: r) ((F, .inl i) :: fs)
  | con {F c : Str} {j : Nat} {q1 q2 q3 q4 : Pos} {r : List Stmt} {fs : List (Str × Sum Nat Str)} (t : Sts ps r fs) : Sts ps (.Assign [.Attribute (.Name "self" q1) F q2] (.Constant (.str c) j q3) q4 :: r) ((F, .inr c) :: fs)
def fldV (vs : List V) : Sum Nat Str → V
  | .inl i => vs.getD i .non
  | .inr c => .str c
def errF (vs : List V) : List (Str × Sum Nat Str) → List (Str × V) → List (Str × V)
  | [], acc => acc
  | p :: r, acc => errF vs r ((p.1, fldV vs p.2) :: acc)
/-- an exception while its __init__ runs -/
structure ErrAt (h0 h : Heap) (x C L : Addr) (m : Str → Option Value) (acc : List (Str × V)) (dd : Option Addr) : Prop where
  keep : ∀ b o, b ≠ x → h0.get? b = some o → h.get? b = some o
  sz : h0.objs.size ≤ h.objs.size
  ns : h.Ns L m
  obj : ∃ t1 : Addr, h.get? x = some ({ cls := .ref C, dict := dd, data := .fields #[.ref t1, .none, .none, .none, .bool false, .none] } : Obj)
  dct : match dd with | none => acc = [] | some dx => acc ≠ [] ∧ h0.objs.size ≤ dx ∧ dx ≠ x ∧ dx ≠ L ∧ ∃ mA, h.Ns1 dx mA ∧ ∀ f, RelO (acc.lookup f) (mA f)
theorem kept_but {K : PySem.W.Frag} {h h' : Heap} {x : Addr} (X : K.In h) (hx : K.lookup x = none) (k : ∀ b o, b ≠ x → h.get? b = some o → h'.get? b = some o) : K.In h' := fun a o e =>
  k a o (fun z => by rw [z, hx] at e; cases e) (X a o e)
/-- what the written part says of an error's class, at C; its __init__ at fI -/
structure ErrC (P : Program) (K : PySem.W.Frag) (C fI : Addr) (st : Stmt) (q : Str) (ps : List Str) (fs : List (Str × Sum Nat Str)) : Prop where
  cls : ∃ nm qn N bs bm sn sub ab col dd k0 k1 k2 k3 k5, K.lookup C = some (excClassObj nm qn C N bs bm true sn sub ab col dd k0 k1 k2 k3 k5 "ValueError.__new__") ∧ PySem.HandSPX.refsVE bm = true
  sa : PySem.W.findIn K (.ref C) "__setattr__" = some (some (.builtin "object.__setattr__"))
  ga : PySem.W.findIn K (.ref C) "__getattribute__" = some (some (.builtin "BaseException.__getattribute__"))
  gg : PySem.W.findIn K (.ref C) "__getattr__" = some none
  noF : ∀ p ∈ fs, PySem.W.findIn K (.ref C) p.1 = some none
  iC : PySem.W.findIn K (.ref C) "__init__" = some (some (.ref fI))
  tC : PySem.W.typeIn K (.ref fI) = some (.type "function")
  kC : PySem.W.keepIn K (.ref C) = true
  exC : PySem.W.subIn K (.ref C) (.type "BaseException") = some true
  veC : PySem.W.subIn K (.ref C) (.type "ValueError") = some true
  tyC : PySem.W.typeIn K (.ref C) = some (.type "type")
  hdC : PySem.W.hasDictIn K C = true
  su : PySem.W.ks_superIn K C C "__init__" = some (some (.builtin "ValueError.__init__"))
  mro : PySem.W.mroIn K C (.ref C) = some true
  te : PySem.W.exmOne K (.ref C) (.ref C) = some true
  op : PySem.W.nsIn K cStatics "thirdparty.any" = some none
  fn : ∃ (oc : Value) (od : Option Addr) (doc pm : Value) (an : Option Addr) (cda cc : Addr) (ct : Value) (osl : Array (Option Value)) (ccl : Value) (cdd : Option Addr) (vs : Array Value) (ccs : Array (Option Value)) (tf : Tok) (cl : Value) (cld : Option Addr) (csl : Array (Option Value)),
    K.lookup fI = some ⟨oc, od, .func (PySem.W.ksFn "__init__" q (defArgs st) (defBody st) (defScope st) .none .none doc pm an (.ref cda) ct cc), osl⟩ ∧ PySem.W.codeIn K (.ref cda) q = true ∧
    K.lookup cda = some ⟨ccl, cdd, .fields vs, ccs⟩ ∧ vs[2]? = some (.str P.main.file tf) ∧ K.lookup cc = some ⟨cl, cld, .cell (some (.ref C)), csl⟩
  hd : ∃ ar : Arg, ((defArgs st).posonlyargs ++ (defArgs st).args).head? = some ar ∧ ar.arg = "self"
  bd : ∀ (doc pm : Value) (an : Option Addr) (cda cc : Addr) (ct : Value) (us : List Value), us.length = ps.length + 1 → bindArgs (PySem.W.ksFn "__init__" q (defArgs st) (defBody st) (defScope st) .none .none doc pm an (.ref cda) ct cc) ⟨us, []⟩ = pure ((("self" : Str) :: ps).zip us)
  bo : ∃ (p0 p1 p2 p3 p4 p5 : Pos) (j : Nat) (msg : Str) (sts : List Stmt), defBody st = .Expr (.Call (.Attribute (.Call (.Name "super" p0) [] [] p1) "__init__" p2) [.Constant (.str msg) j p3] [] p4) p5 :: sts ∧ Sts ps sts fs ∧
    ∀ (L cda cc : Addr), ∃ pl : Sem Bool, eval (.Call (.Attribute (.Call (.Name "super" p0) [] [] p1) "__init__" p2) [.Constant (.str msg) j p3] [] p4) (PySem.W.ksEnv q (defScope st) L fI (.ref cda) cc) = (do
      let ov ← attributeBase (.Call (.Name "super" p0) [] [] p1) "__init__" (PySem.W.ksEnv q (defScope st) L fI (.ref cda) cc) (eval (.Call (.Name "super" p0) [] [] p1) (PySem.W.ksEnv q (defScope st) L fI (.ref cda) cc))
      standAt p2.atName
      let (f, first) ← holding [ov] (getMethod ov "__init__" pl)
      callWith p4 f first (backTo p4 (starEach [.Constant (.str msg) j p3] (PySem.W.ksEnv q (defScope st) L fI (.ref cda) cc))) [])
  sck : (defScope st).kind = .function
  scc : (defScope st).isCoroutine = false
  scg : (defScope st).isGenerator = false
  scn : ∀ x ∈ (defScope st).names, x.2 ≠ .cell
  scl : ∀ x ∈ (("self" : Str) :: ps), (defScope st).names.lookup x = some .local
  scs : (defScope st).names.lookup ("super" : Str) = some .globalImplicit
  scf : (defScope st).names.lookup ("__class__" : Str) = some .free
  nd : (("self" : Str) :: ps).Nodup
  top : (P.main.scope.names.lookup ("super" : Str)).isSome = false
section
open PySem PySem.W PySem.Calls PyProof.Rows PySem.HandSPX
variable {prog : Program} {w : World} {A : Around} {K : PySem.W.Frag} {C fI : Addr} {st : Stmt} {q : Str} {ps : List Str} {fs : List (Str × Sum Nat Str)}
theorem err_stores (T : ErrC prog K C fI st q ps fs) {h0 : Heap} {x L : Addr} {m : Str → Option Value} {vs : List V} {env : Env} {E : Value → Shared → Prop} (X0 : K.In h0) (hnx : K.lookup x = none) (hLx : L ≠ x)
    (hself : m "self" = some (.ref x)) (hpar : ∀ (i : Nat) p, ps[i]? = some p → ∃ v u, vs[i]? = some v ∧ RelV v u ∧ m p = some u)
    (hk : env.scope.kind = .function) (hlo : env.locals = L) (hkl : ∀ y ∈ (("self" : Str) :: ps), env.kindOf y = some .local) (hdb : ∀ y ∈ (("self" : Str) :: ps), (y == ("__debug__" : Str)) = false) :
    ∀ {sts : List Stmt} {fs' : List (Str × Sum Nat Str)}, Sts ps sts fs' → (∀ p ∈ fs', p ∈ fs) → ∀ {acc : List (Str × V)} {dd : Option Addr} {s : Shared} {Q : Flow → Shared → Prop}, ErrAt h0 s.heap x C L m acc dd → acc.length + fs'.length ≤ 100 →
      (∀ h' tk dd', ErrAt h0 h' x C L m (errF vs fs' acc) dd' → Q .next { s with heap := h', toks := tk }) → wpAny (model prog w) A (execs sts env) Q E s := by
  obtain ⟨nm, qn, N, bs, bm, sn, sub, ab, col, dd0, k0, k1, k2, k3, k5, hC, hbm⟩ := T.cls
  have hcl : clsIn K C = some { name := nm, bases := bs, mro := .ref C :: bm, ns := N, qualname := qn, hasDict := true, slotNames := sn, subclasses := sub, abstract := ab, collection := col, hasDel := false } := by unfold clsIn; rw [hC] <;> rfl
  have ldl : ∀ {y : Str} {u : Value} {pos : Pos} {s : Shared} {Q : Value → Shared → Prop}, y ∈ (("self" : Str) :: ps) → s.heap.Ns L m → m y = some u → Q u s → wpAny (model prog w) A (eval (.Name y pos) env) Q E s :=
    fun {y u pos s Q} hy hn hv h => wpAny_Name (wpAny_loadName_local hk (hkl y hy) (by rw [hlo]; exact hn) hv h) (hdb y hy)
  have hsf : ("self" : Str) ∈ (("self" : Str) :: ps) := List.mem_cons_self
  -- one store
  have one : ∀ {F : Str} {y : V} {u : Value} {acc : List (Str × V)} {dd : Option Addr} {s : Shared} {Q : Unit → Shared → Prop}, findIn K (.ref C) F = some none → RelV y u → ErrAt h0 s.heap x C L m acc dd → acc.length ≤ 99 →
      (∀ h' tk dd', ErrAt h0 h' x C L m ((F, y) :: acc) dd' → Q () { s with heap := h', toks := tk }) → wpAny (model prog w) A (setAttr (.ref x) F u) Q E s := by
    intro F y u acc dd s Q hF ry S hl hq
    obtain ⟨kp, sz, hn, ⟨t1, hx⟩, hd⟩ := S
    have X : K.In s.heap := kept_but X0 hnx kp
    obtain ⟨hp, g, d, tk, os⟩ := s
    obtain ⟨oL, esL, epL, hoL, hrL⟩ := id hn
    cases dd with
    | none =>
      have hd : acc = [] := hd
      subst hd
      refine set_plain X (ox := excO C t1) (od := none) ⟨hx, rfl, rfl, trivial⟩ T.sa ?_
      refine exc_osa X hx hcl (show refsVE (.ref C :: bm) = true from hbm) rfl hF (fun h₃ tk₃ dx k₃ dn dne hx₃ hn₃ => ?_)
      have dL : dx ≠ L := fun z => by
        have := Heap.lt_size hoL
        rw [← z] at this
        exact absurd (Nat.lt_of_lt_of_le this dn) (Nat.lt_irrefl _)
      have z3 : dx < h₃.objs.size := by
        obtain ⟨o, _, _, e, _⟩ := hn₃
        exact Heap.lt_size e
      refine hq h₃ tk₃ (some dx) ⟨fun b o hb e => k₃ b o hb (kp b o hb e), Nat.le_of_lt (Nat.lt_of_le_of_lt (Nat.le_trans sz dn) z3), ⟨oL, esL, epL, k₃ _ _ hLx hoL, hrL⟩, ⟨t1, hx₃⟩, ?_⟩
      exact ⟨List.cons_ne_nil _ _, Nat.le_trans sz dn, dne, dL, _, hn₃, relO_put (fs := []) ry fun g => True.intro⟩
    | some dx =>
      obtain ⟨_, d1, d2, d3, mA, hns, rel⟩ := hd
      have hw := within_of rel
      obtain ⟨oD, _, _, hoD, _, _⟩ := hns.count hw
      refine set_plain X (ox := { cls := .ref C, dict := some dx, data := .fields #[.ref t1, .none, .none, .none, .bool false, .none] }) (od := some oD) ⟨hx, rfl, rfl, hoD⟩ T.sa ?_
      refine PySem.OEX.osa_old X hx hns hw (by rw [List.length_map]; omega) hcl (show refsVE (.ref C :: bm) = true from hbm) rfl hF (fun h' tk' k hn' => ?_)
      have z3 : dx < h'.objs.size := by
        obtain ⟨o, _, _, e, _⟩ := hn'
        exact Heap.lt_size e
      refine hq h' tk' (some dx) ⟨fun b o hb e => k b o (fun z => ?_) (kp b o hb e), Nat.le_of_lt (Nat.lt_of_le_of_lt d1 z3), ⟨oL, esL, epL, k _ _ (Ne.symm d3) hoL, hrL⟩, ⟨t1, k _ _ (Ne.symm d2) hx⟩, ⟨List.cons_ne_nil _ _, d1, d2, d3, _, hn', relO_put ry rel⟩⟩
      have := Heap.lt_size e
      rw [z] at this
      exact absurd (Nat.lt_of_lt_of_le this d1) (Nat.lt_irrefl _)
  intro sts fs' S
  induction S with
  | nil =>
    intro hfs acc dd s Q S hl hq
    exact wpAny_execs_nil (by have := hq s.heap s.toks dd S; exact this)
  | @par F p i q1 q2 q3 q4 r fs1 h t ih =>
    intro hfs acc dd s Q S hl hq
    obtain ⟨v, u, hv, ru, hm⟩ := hpar i p h
    have hp : p ∈ (("self" : Str) :: ps) := List.mem_cons_of_mem _ (List.mem_of_getElem? h)
    refine wpAny_execs_cons (plainObj_wpAny_Assign_Attribute ?_)
    refine ldl hp S.ns hm (ldl hsf S.ns hself ?_)
    have hl2 : acc.length + (fs1.length + 1) ≤ 100 := hl
    refine one (hfs _ List.mem_cons_self |> T.noF _) ru S (by omega) fun h' tk dd' S' => ?_
    refine ih (fun z hz => hfs z (List.mem_cons_of_mem _ hz)) (s := { s with heap := h', toks := tk }) S' (by rw [List.length_cons]; omega) fun h'' tk' dd'' S'' => ?_
    have e : errF vs ((F, Sum.inl i) :: fs1) acc = errF vs fs1 ((F, v) :: acc) := by
      show errF vs fs1 ((F, vs.getD i .non) :: acc) = _
      rw [List.getD_eq_getElem?_getD, hv]; rfl
    rw [e] at hq
    exact hq h'' tk' dd'' S''
  | @con F c j q1 q2 q3 q4 r fs1 t ih =>
    intro hfs acc dd s Q S hl hq
    refine wpAny_execs_cons (plainObj_wpAny_Assign_Attribute ?_)
    refine Calls.Constant_str (ldl (s := { s with toks := s.toks + 1 }) hsf S.ns hself ?_)
    have hl2 : acc.length + (fs1.length + 1) ≤ 100 := hl
    refine one (y := .str c) (s := { s with toks := s.toks + 1 }) (hfs _ List.mem_cons_self |> T.noF _) ⟨_, rfl⟩ S (by omega) fun h' tk dd' S' => ?_
    refine ih (fun z hz => hfs z (List.mem_cons_of_mem _ hz)) (s := { s with heap := h', toks := tk }) S' (by rw [List.length_cons]; omega) fun h'' tk' dd'' S'' => ?_
    exact hq h'' tk' dd'' S''
end
section
open PySem PySem.W PySem.Calls PyProof.Rows PySem.HandSPX
variable {prog : Program} {w : World} {A : Around} {K : PySem.W.Frag} {C fI : Addr} {st : Stmt} {q : Str} {ps : List Str} {fs : List (Str × Sum Nat Str)}
theorem call_mw (T : ErrC prog K C fI st q ps fs) {E : Value → Shared → Prop} {h : Heap} {g : Array GenState} {d : Drawn} {t : Nat} {os : OsState} {u e t0 : Addr} {rest : List Value} {Q : Value → Shared → Prop} (X : K.In h)
    (he : h.get? e = some (excO C t0)) (hu : h.get? u = some (kxs_mw "ValueError.__init__" e)) (hrest : rest.length ≤ sizeLine)
    (hq : ∀ h' t1, (∀ b o, b ≠ e → h.get? b = some o → h'.get? b = some o) → h'.get? e = some (excO C t1) → Q .none ⟨h', g, d, t, os⟩) :
    wpAny (model prog w) A (call (.ref u) rest) Q E ⟨h, g, d, t, os⟩ := by
  obtain ⟨nm, qn, N, bs, bm, sn, sub, ab, col, dd0, k0, k1, k2, k3, k5, hC, hbm⟩ := T.cls
  refine wpAny_call (codeAny_of_tree ?_)
  show wpAny _ A.in1 (callAny (.ref u) ⟨rest, []⟩) _ _ _
  simp only [callAny]
  refine wpAny_bind (wpAny_load hu ?_)
  simp only [kxs_mw, show (Value.type "method-wrapper" == Value.type "method" || Value.type "method-wrapper" == Value.type "builtin_function_or_method" || Value.type "method-wrapper" == Value.type "method-wrapper") = true by decide, if_true]
  refine KFB.if_so (by decide) ?_
  refine wpAny_bind (check_bound_init F.excBase_ValueError.toExcCallFacts (X _ _ hC) he rfl ?_)
  refine wpAny_bind (wpAny_pure (wpAny_pure ?_))
  refine ⟨plainId_quiet F.excBase_ValueError.init.plain _, codeAny_builtin F.excBase_ValueError.initEntry ?_⟩
  exact exc_init_tree (cls := .ref C) (t0 := t0) (dv := none) (c2 := .none) (c3 := .none) (b4 := .bool false) he hrest fun h' k e1 _ => hq h' _ k e1
theorem err_initA {args : Args} (T : ErrC prog K C fI st q ps fs) {R : Result → Shared → Prop} {s : Shared} {x t0 : Addr} {vs : List V} {us : List Value} {mg : Str → Option Value} (X : K.In s.heap) (hlim : s.heap.NoLimit)
    (G : s.heap.Ns mainGlobals mg) (hsup : mg "super" = none) (B : ∃ mb, s.heap.Ns builtinsNs mb ∧ ∀ y : Str, y ≠ "__name__" → mb y = bootBuiltins y)
    (hx : s.heap.get? x = some (excO C t0)) (hnx : K.lookup x = none) (hroom : A.depth < recursionLimit) (hv : Vals vs us) (hlen : vs.length = ps.length) (hfs : fs.length ≤ 90) (hdb : ∀ y ∈ (("self" : Str) :: ps), (y == ("__debug__" : Str)) = false)
    (hba : ∀ (doc pm : Value) (an : Option Addr) (cda cc : Addr) (ct : Value), bindArgs (PySem.W.ksFn "__init__" q (defArgs st) (defBody st) (defScope st) .none .none doc pm an (.ref cda) ct cc) args = pure ((("self" : Str) :: ps).zip (.ref x :: us)))
    (hq : ∀ h' tk dd L m, L ≠ x → s.heap.objs.size ≤ L → ErrAt s.heap h' x C L m (errF vs fs []) dd → R (.ok (.ret .none)) { s with heap := h', toks := tk }) :
    codeAny (model prog w) A (.call (.ref fI) args) R s := by
  obtain ⟨oc, od, doc, pm, an, cda, cc, ct, osl, ccl, cdd, cvs, ccs, tf, cl, cld, csl, ho, hcd, hcode, hcv, hcell⟩ := T.fn
  obtain ⟨nm, qn, N, bs, bm, sn, sub, ab, col, dd0, k0, k1, k2, k3, k5, hC, hbm⟩ := T.cls
  obtain ⟨p0, p1, p2, p3, p4, p5, j, msg, sts, hbody, hsts, hev⟩ := T.bo
  obtain ⟨ar, har, hself⟩ := T.hd
  have hcl : clsIn K C = some { name := nm, bases := bs, mro := .ref C :: bm, ns := N, qualname := qn, hasDict := true, slotNames := sn, subclasses := sub, abstract := ab, collection := col, hasDel := false } := by unfold clsIn; rw [hC] <;> rfl
  have hul : us.length = ps.length := by rw [← hlen]; exact hv.length.symm
  have hbind := BindsTo.of_eq (s := s) (hba doc pm an cda cc ct)
  have binK : ∀ y ∈ ((("self" : Str) :: ps).zip (Value.ref x :: us)), (defScope st).names.lookup y.1 = some .local := fun ⟨n, u⟩ hy => T.scl n (List.of_mem_zip hy).1
  refine ks_codeAny_call_defAt (fd := ksFn "__init__" q (defArgs st) (defBody st) (defScope st) .none .none doc pm an (.ref cda) ct cc) (body := defBody st) (binds := (("self" : Str) :: ps).zip (Value.ref x :: us)) hroom (X _ _ ho) rfl hlim (codeRec_of X hcd) rfl hbind T.scn binK (fun h₁ hns hk₁ => ?_) T.scc T.scg T.sck
  have X₁ : K.In h₁ := X.keeps hk₁
  have hx₁ := hk₁ _ _ hx
  have hLx : s.heap.objs.size ≠ x := Nat.ne_of_gt (Heap.lt_size hx)
  have sz1 : s.heap.objs.size < h₁.objs.size := hns.lt
  generalize hm : (fun y => (List.reverse ((("self" : Str) :: ps).zip (Value.ref x :: us))).lookup y) = m at hns
  have key : ∀ (l1 : List Str) (l2 : List Value) (i : Nat) (y : Str) (u : Value), l1.Nodup → l1[i]? = some y → l2[i]? = some u → (List.reverse (l1.zip l2)).lookup y = some u := by
    intro l1
    induction l1 with
    | nil => intro l2 i y u _ h _; simp at h
    | cons a r ih =>
      intro l2 i y u nd h1 h2
      cases l2 with
      | nil => simp at h2
      | cons b l2 =>
        rw [List.zip_cons_cons, List.reverse_cons, List.lookup_append]
        cases i with
        | zero =>
          simp only [List.getElem?_cons_zero, Option.some.injEq] at h1 h2
          subst h1 h2
          have : (List.reverse (r.zip l2)).lookup a = none := by
            rw [List.lookup_eq_none_iff]
            intro p hp
            have hp' := List.mem_reverse.mp hp
            have := (List.of_mem_zip (show (p.1, p.2) ∈ r.zip l2 from hp')).1
            simp only [beq_eq_false_iff_ne, ne_eq, bne_iff_ne]
            intro e
            rw [e] at nd
            exact (List.nodup_cons.mp nd).1 this
          rw [this]
          simp [List.lookup]
        | succ i =>
          rw [ih l2 i y u (List.nodup_cons.mp nd).2 h1 h2]; rfl
  have mself : m "self" = some (.ref x) := by rw [← hm]; exact key _ _ 0 _ _ T.nd rfl rfl
  have mpar : ∀ (i : Nat) p, ps[i]? = some p → ∃ v u, vs[i]? = some v ∧ RelV v u ∧ m p = some u := fun i p hp => by
    have hi : i < vs.length := by rw [hlen]; exact (List.getElem?_eq_some_iff.mp hp).1
    obtain ⟨u, hu, ru⟩ := hv.get (List.getElem?_eq_getElem hi)
    refine ⟨_, u, List.getElem?_eq_getElem hi, ru, ?_⟩
    rw [← hm]
    exact key _ _ (i + 1) _ _ T.nd hp hu
  have hDget : h₁.get? C = some (excClassObj nm qn C N bs bm true sn sub ab col dd0 k0 k1 k2 k3 k5 "ValueError.__new__") := X₁ _ _ hC
  obtain ⟨pl, hev⟩ := hev s.heap.objs.size cda cc
  show _root_.PySem.wpAt _ (A.deeper (ksEnv q (defScope st) s.heap.objs.size fI (.ref cda) cc)) (.func (defBody st) (ksEnv q (defScope st) s.heap.objs.size fI (.ref cda) cc)) (execs (defBody st) (ksEnv q (defScope st) s.heap.objs.size fI (.ref cda) cc)) _ _ _
  generalize henv : ksEnv q (defScope st) s.heap.objs.size fI (.ref cda) cc = env at hev ⊢
  have e1 : env.scope = defScope st := by rw [← henv]
  have e2 : env.locals = s.heap.objs.size := by rw [← henv]
  have e3 : env.func = some fI := by rw [← henv]
  have e4 : env.code = .ref cda := by rw [← henv]
  have e5 : env.globals = mainGlobals := by rw [← henv]
  have e6 : env.builtins = builtinsNs := by rw [← henv]
  have e7 : env.cells.lookup ("__class__" : Str) = some cc := by rw [← henv]; rfl
  have kd : ∀ y, env.kindOf y = (defScope st).names.lookup y := fun y => by rw [← henv]; rfl
  have hkf : env.scope.kind = .function := by rw [e1]; exact T.sck
  generalize hbb : defBody st = body
  rw [hbb] at hbody
  have hbody2 : execs body env = execs (.Expr (.Call (.Attribute (.Call (.Name "super" p0) [] [] p1) "__init__" p2) [.Constant (.str msg) j p3] [] p4) p5 :: sts) env := by rw [hbody]
  rw [hbody2]
  refine ks_wpAt_execs_cons (ks_wpAt_Expr_any ?_ (by simp [interactive, hkf]) rfl)
  refine ks_wpAt_MethodCall (pl := pl) ?_ hev
  refine ks_wpAt_super_base ((kd _).trans T.scs) ((kd _).trans T.scf) (by decide) e3 (hk₁ _ _ (X _ _ ho)) rfl har e4 (X₁ _ _ hcode) rfl hcv (by simp) T.top ?_
  obtain ⟨mb, hB1, hB2⟩ := B
  refine ks_loadName_global hkf ((kd _).trans T.scs) (loadGlobal_builtin (by rw [e5]; exact G.keeps hk₁) hsup (by rw [e6]; exact hB1.keeps hk₁) ((hB2 _ (by decide)).trans (by decide +kernel)) ⟨rfl, ?_⟩)
  refine wpAny_loadName_free hkf ((kd _).trans T.scf) e7 ⟨_, X₁ _ _ hcell, rfl⟩ ?_
  rw [hself]
  refine wpAny_loadName_local hkf ((kd _).trans (T.scl _ List.mem_cons_self)) (by rw [e2]; exact hns) mself ?_
  refine ks_wpAny_isType_cls hDget rfl ⟨rfl, ?_⟩
  obtain ⟨hp0, g, d, tk, os⟩ := s
  refine ks_wpAny_call_super (ox := excO C t0) hDget rfl hx₁ rfl (fun c e => nomatch e) (looks_mroIn X₁ T.mro) (fun h₂ e₂ k₂ => ?_)
  have X₂ : K.In h₂ := X₁.keeps k₂
  have I₂ : InstAt h₂ x (excO C t0) C none := ⟨k₂ _ _ hx₁, rfl, rfl, trivial⟩
  have hsu := T.su
  unfold ks_superIn at hsu
  rw [hcl] at hsu
  refine kxs_getMethod kxs_ValueError e₂ (looks_opaque X₂ T.op) (l₀ := .ref C :: bm) ?_ rfl X₂ hsu (I₂.type.andThen (looks_subIn X₂ T.veC)) (ks_ne X₂ I₂ hcl) (by decide) ?_
  · exact fun A Q E s k q => wpAny_bind ((looks_clsIn X₂ hcl) A _ E s k (wpAny_pure q))
  have hu : (h₂.push (kxs_mw "ValueError.__init__" x)).get? h₂.objs.size = some (kxs_mw "ValueError.__init__" x) := Heap.get?_push_at rfl rfl
  have k₃ : ∀ b o, h₂.get? b = some o → (h₂.push (kxs_mw "ValueError.__init__" x)).get? b = some o := fun b o e => Heap.get?_push_of_some _ e
  show wpAny _ _ (callWith p4 (.ref h₂.objs.size) [] (backTo p4 (starEach [.Constant (.str msg) j p3] env)) []) _ _ _
  refine kxs_callWith (i := "ValueError.__init__") (x := x) rfl (evalArgs_plain ?_)
  show wpAny _ _ (spliced [(false, eval (.Constant (.str msg) j p3) env)]) _ _ _
  refine spliced_cons (Constant_str (spliced_nil ⟨hu, ?_⟩))
  refine call_mw T (X₂.keeps k₃) (k₃ _ _ (k₂ _ _ hx₁)) hu (by show 1 ≤ sizeLine; decide) fun h₄ t1 k₄ hx₄ => ?_
  show _root_.PySem.wpAt _ _ _ (execs sts env) _ _ _
  refine wpAt_of_wpAny ?_
  have keep4 : ∀ b o, b ≠ x → hp0.get? b = some o → h₄.get? b = some o := fun b o hb e => k₄ b o hb (k₃ _ _ (k₂ _ _ (hk₁ _ _ e)))
  obtain ⟨oL, esL, epL, hoL, hrL⟩ := id hns
  have hoL4 : h₄.get? hp0.objs.size = some oL := k₄ _ _ hLx (k₃ _ _ (k₂ _ _ hoL))
  have S0 : ErrAt hp0 h₄ x C hp0.objs.size m [] none := ⟨keep4, Nat.le_of_lt (Heap.lt_size hoL4), ⟨oL, esL, epL, hoL4, hrL⟩, ⟨t1, hx₄⟩, rfl⟩
  refine err_stores T (h0 := hp0) X hnx hLx mself mpar hkf e2 (fun y hy => (kd y).trans (T.scl y hy)) hdb hsts (fun _ z => z) (acc := []) (s := ⟨h₄, g, d, _, os⟩) S0 (by rw [List.length_nil]; omega) fun h' tk' dd' S' => ?_
  exact hq h' tk' dd' hp0.objs.size m hLx (Nat.le_refl _) S'
theorem err_init (T : ErrC prog K C fI st q ps fs) {R : Result → Shared → Prop} {s : Shared} {x t0 : Addr} {vs : List V} {us : List Value} {mg : Str → Option Value} (X : K.In s.heap) (hlim : s.heap.NoLimit)
    (G : s.heap.Ns mainGlobals mg) (hsup : mg "super" = none) (B : ∃ mb, s.heap.Ns builtinsNs mb ∧ ∀ y : Str, y ≠ "__name__" → mb y = bootBuiltins y)
    (hx : s.heap.get? x = some (excO C t0)) (hnx : K.lookup x = none) (hroom : A.depth < recursionLimit) (hv : Vals vs us) (hlen : vs.length = ps.length) (hfs : fs.length ≤ 90) (hdb : ∀ y ∈ (("self" : Str) :: ps), (y == ("__debug__" : Str)) = false)
    (hq : ∀ h' tk dd L m, L ≠ x → s.heap.objs.size ≤ L → ErrAt s.heap h' x C L m (errF vs fs []) dd → R (.ok (.ret .none)) { s with heap := h', toks := tk }) :
    codeAny (model prog w) A (.call (.ref fI) ⟨.ref x :: us, []⟩) R s :=
  err_initA T X hlim G hsup B hx hnx hroom hv hlen hfs hdb (fun doc pm an cda cc ct => T.bd doc pm an cda cc ct (.ref x :: us) (by rw [List.length_cons, ← hlen]; exact congrArg (· + 1) hv.length.symm)) hq
end
section
open PySem PySem.Spec PyProof.Rows
variable {X : Cx} {C fI : Addr} {st : Stmt} {q : Str} {ps : List Str} {fs : List (Str × Sum Nat Str)}
/-- what the making of such an error leaves: its class, its own dict (new), the fields -/
def errQ (C : Addr) (fs : List (Str × Sum Nat Str)) (vs : List V) (H1 : Hp) (Q : XK) : Prop := match fs with
  | [] => Q (.ref C) none H1
  | p :: r => ∀ d, H1 d = none → Q (.ref C) (some d) (upd H1 d (.xd (errF vs (p :: r) [])))
def tErr (C : Addr) (n : Nat) (fs : List (Str × Sum Nat Str)) (ta : TA) : L2.St → Hp → XK → Prop := fun σ H Q => ta σ H fun vs H1 => vs.length = n ∧ errQ C fs vs H1 Q
theorem errF_nil {vs : List V} : ∀ {fs : List (Str × Sum Nat Str)} {acc : List (Str × V)}, errF vs fs acc = [] → fs = [] ∧ acc = []
  | [], acc, e => ⟨rfl, e⟩
  | p :: r, acc, e => by
    obtain ⟨_, h⟩ := errF_nil (fs := r) (acc := (p.1, fldV vs p.2) :: acc) e
    cases h
theorem err_made (T : ErrC X.prog X.K C fI st q ps fs) {pins : List (Addr × Obj)} {σ : L2.St} {H1 : Hp} {s1 : Shared} {Q : XK} {vs : List V} {us : List Value} {k : Nat} (hsup : X.mg "super" = none) (hr : Room k X.A) (hfs : fs.length ≤ 90)
    (hdb : ∀ y ∈ (("self" : Str) :: ps), (y == ("__debug__" : Str)) = false) (I1 : Inv X pins σ H1 s1) (r : Vals vs us) (hl : vs.length = ps.length) (hz : us.length ≤ sizeLine)
    (q1 : errQ C fs vs H1 Q) :
    wpAny (model X.prog X.w) X.A (call (.ref C) us) (MkP X pins σ Q) X.xe s1 := by
  obtain ⟨nm, qn, N, bs, bm, sn, sub, ab, col, dd0, k0, k1, k2, k3, k5, hC, hbm⟩ := T.cls
  have hlim := I1.nolimit
  have KX := I1.kIn
  have G := I1.mod.glob.keeps I1.bk
  have B : ∃ mb, s1.heap.Ns builtinsNs mb ∧ ∀ y : Str, y ≠ "__name__" → mb y = bootBuiltins y := by
    obtain ⟨mb, b1, b2⟩ := I1.mod.blt
    exact ⟨mb, b1.keeps I1.bk, b2⟩
  obtain ⟨hp, g, dr, tk, os⟩ := s1
  have kk : ∀ b o, hp.get? b = some o → ((hp.push (PySem.W.kdv_tup us)).push (PySem.HandSPX.excO C hp.objs.size)).get? b = some o := fun b o e => Heap.get?_push_of_some _ (Heap.get?_push_of_some _ e)
  have hget : ((hp.push (PySem.W.kdv_tup us)).push (PySem.HandSPX.excO C hp.objs.size)).get? (hp.objs.size + 1) = some (PySem.HandSPX.excO C hp.objs.size) := by heap_get
  have hnx : X.K.lookup (hp.objs.size + 1) = none := by
    cases e : X.K.lookup (hp.objs.size + 1) with
    | none => rfl
    | some o =>
      have z : hp.get? (hp.objs.size + 1) = some o := KX _ _ e
      exact absurd (Nat.lt_of_succ_lt (Heap.lt_size z)) (Nat.lt_irrefl _)
  refine wpAny_call (PySem.HandSPX.call_own F.excBase_ValueError (fun Y => PySem.HandSPX.refsVE_contains Y bm hbm) (KX _ _ hC) (PySem.W.looks_findIn KX T.iC) (fun self => PySem.W.bind_fn KX self T.tC) hz ?_)
  have hdp := hr.dp
  refine err_init T (vs := vs) (mg := X.mg) (s := ⟨(hp.push (PySem.W.kdv_tup us)).push (PySem.HandSPX.excO C hp.objs.size), g, dr, tk, os⟩) (KX.keeps kk) (hlim.keeps kk) (G.keeps kk) hsup (let ⟨mb, b1, b2⟩ := B; ⟨mb, b1.keeps kk, b2⟩) hget hnx ?_ r hl hfs hdb fun h' tk' dd L m hLx hLz S => ?_
  · show X.A.depth + 1 < recursionLimit
    omega
  obtain ⟨kp, sz, hn, ⟨t1, hx⟩, hd⟩ := S
  have e2 : ((hp.push (PySem.W.kdv_tup us)).push (PySem.HandSPX.excO C hp.objs.size)).objs.size = hp.objs.size + 2 := by simp [Heap.size_push]
  have old0 : ∀ b o, hp.get? b = some o → h'.get? b = some o := fun b o e => kp b o (Nat.ne_of_lt (Nat.lt_succ_of_lt (Heap.lt_size e))) (kk b o e)
  obtain ⟨G', g1, g2⟩ := restrict h' fun b => decide (b ≠ hp.objs.size + 1)
  have gk : ∀ b, b ≠ hp.objs.size + 1 → G'.get? b = h'.get? b := fun b hb => g1 b (decide_eq_true hb)
  have ge : G'.get? (hp.objs.size + 1) = none := g2 _ (by simp)
  have old : ∀ b o, hp.get? b = some o → G'.get? b = some o := fun b o e => (gk b (Nat.ne_of_lt (Nat.lt_succ_of_lt (Heap.lt_size e)))).trans (old0 b o e)
  have sub2 : ∀ b o, G'.get? b = some o → h'.get? b = some o := fun b o e => by
    by_cases hb : b = hp.objs.size + 1
    · rw [hb, ge] at e; cases e
    · rw [← gk b hb]; exact e
  refine ⟨rfl, ?_⟩
  show MkP X pins σ Q (.ref (hp.objs.size + 1)) ⟨h', g, dr, tk', os⟩
  cases dd with
  | none =>
    have hd : errF vs fs [] = [] := hd
    obtain ⟨rfl, _⟩ := errF_nil hd
    have J : Inv X pins σ H1 ⟨G', g, dr, tk', os⟩ := I1.kept (t' := tk') old
    exact ⟨hp.objs.size + 1, _, _, ⟨G', g, dr, tk', os⟩, H1, .ref C, none, rfl, J, sub2, ge, hx, ⟨rfl, rfl⟩, rfl, rfl, I1.hok.fresh (Nat.le_succ _), rfl, I1.bare, raises_own T.exC T.tyC, q1⟩
  | some dx =>
    obtain ⟨d0, d1, d2, d3, mA, hns, rel⟩ := hd
    rw [e2] at d1
    have hdx : hp.objs.size ≤ dx := Nat.le_trans (Nat.le_add_right _ 2) d1
    have nd : H1 dx = none := I1.hok.fresh hdx
    have ob : ObjOk X.prog X.w (upd H1 dx (.xd (errF vs fs []))) G' dx (.xd (errF vs fs [])) := ⟨mA, hns.at (fun o q => (gk dx d2).trans q), rel⟩
    have J : Inv X pins σ (upd H1 dx (.xd (errF vs fs []))) ⟨G', g, dr, tk', os⟩ := I1.laid (t' := tk') old hdx ob
    refine ⟨hp.objs.size + 1, _, _, ⟨G', g, dr, tk', os⟩, _, .ref C, some dx, rfl, J, sub2, ge, hx, ⟨rfl, rfl⟩, rfl, rfl, ?_, rfl, I1.bare, raises_own T.exC T.tyC, ?_⟩
    · rw [upd_ne (Ne.symm d2)]
      exact I1.hok.fresh (Nat.le_succ _)
    · cases fs with
      | nil =>
        exact absurd rfl d0
      | cons p r => exact q1 dx nd
/-- C(e, ..) -/
theorem pmk_err {x : Str} {e : Expr} {es : List Expr} {ta : TA} {p pos : Pos} {k : Nat} (T : ErrC X.prog X.K C fI st q ps fs) (hm : X.mg x = some (.ref C)) (hsup : X.mg "super" = none) (hr : Room k X.A) (ha : PA X (e :: es) ta) (hg : Gl X x := by rfl)
    (hfs : fs.length ≤ 90 := by decide) (hps : ps.length ≤ 90 := by decide) (hdb : ∀ y ∈ (("self" : Str) :: ps), (y == ("__debug__" : Str)) = false := by decide) (hd : (x == ("__debug__" : Str)) = false := by decide)
    (he : starEach (e :: es) X.env = (false, eval e X.env) :: starEach es X.env := by rfl) (hpl : (backTo pos (starEach es X.env)).any (·.1) = false := by rfl) :
    PMk X (.Call (.Name x p) (e :: es) [] pos) (tErr C ps.length fs ta) := by
  intro pins s σ H Q I h
  refine wpAny_Call_Name_kw (ld_glob I hg hm ?_ hd)
  refine PySem.W.callWith_K (h₀ := X.base) I.ok.mod.kin T.kC (thn (ha.run pos pins s σ H _ I h) fun us s1 hh => ?_) he hpl
  obtain ⟨vs, H1, I1, r1, hl, q1⟩ := hh
  refine ⟨I1.kIn, ?_⟩
  exact err_made T hsup hr hfs hdb I1 r1 hl (by rw [List.nil_append, ← r1.length, hl, sizeLine_eq]; omega) q1
/-- C() -/
theorem pmk_err0 {x : Str} {p pos : Pos} {k : Nat} (T : ErrC X.prog X.K C fI st q [] fs) (hm : X.mg x = some (.ref C)) (hsup : X.mg "super" = none) (hr : Room k X.A) (hg : Gl X x := by rfl)
    (hfs : fs.length ≤ 90 := by decide) (hd : (x == ("__debug__" : Str)) = false := by decide) :
    PMk X (.Call (.Name x p) [] [] pos) (tErr C 0 fs tNil) := by
  intro pins s σ H Q I h
  refine wpAny_Call_Name_kw (ld_glob I hg hm ?_ hd)
  refine PySem.W.callWith_K0 I.kIn T.kC ?_
  obtain ⟨_, q1⟩ := h
  exact err_made T (vs := []) (us := []) hsup hr hfs (by decide) I .nil rfl (Nat.zero_le _) q1
end
/-! ### own errors as values: made, asked for their class, read -/
section
open PySem PySem.Spec PySem.Calls PySem.W PyProof.Rows
/-- what isinstance asks of the classes of errors -/
structure ExK (K : PySem.W.Frag) (D : Addr) : Prop where
  e1 : findIn K (.ref D) "__getattribute__" = some (some (.builtin "BaseException.__getattribute__"))
  e2 : findIn K (.ref D) "__getattr__" = some none
  e3 : subIn K (.ref D) (.type "BaseException") = some true
  e4 : hasDictIn K D = true
  e5 : findIn K (.ref D) "__class__" = some (some (.builtin "object.__class__"))
  e6 : specialIn K (.builtin "object.__class__") "__get__" = some (some (.builtin "getset_descriptor.__get__"))
  e7 : takesIn K (.builtin "object.__class__") = some true
  e8 : mroIn K D (.type "object") = some true
variable {K : PySem.W.Frag} {D x : Addr} {ox : Obj} {od : Option Obj}
theorem ExK.hasCls (T : ExK K D) : ∃ cd, clsIn K D = some cd := by
  obtain ⟨cd, h, _⟩ := any_some T.e4
  exact ⟨cd, h⟩
theorem ExK.found (T : ExK K D) : findObj K D od "__class__" = some (.bind (.builtin "getset_descriptor.__get__") (.builtin "object.__class__")) := by
  obtain ⟨cd, h⟩ := T.hasCls
  unfold findObj
  simp [h, T.e5, T.e6, T.e7]
theorem ExK.named {prog : Program} {w : World} {A : Around} {E : Value → Shared → Prop} {s : Shared} {Q : Option Value → Shared → Prop} (T : ExK K D) (KX : K.In s.heap) (J : InstAt s.heap x ox D od)
    (q : Q (some (.ref D)) { s with toks := s.toks + 1 }) : wpAny (model prog w) A (getAttr? (.ref x) "__class__") Q E s := by
  obtain ⟨hp, gs, dr, tk, so⟩ := s
  have isX : Looks (model prog w) hp (isInstance (.ref x) (.type "BaseException")) true := J.type.andThen (looks_subIn KX T.e3)
  have no : (Value.builtin "BaseException.__getattribute__" == Value.builtin "object.__getattribute__") = false := by decide +kernel
  have no2 : (onTheHeap (Value.ref D) && Value.builtin "BaseException.__getattribute__" == Value.builtin "object.__getattribute__") = false := by rw [no]; rfl
  unfold getAttr? getAttrBy? getAttrBy
  refine wpAny_bind (wpAny_mkText (wpAny_bind (wpAny_attempt (wpAny_holding (wpAny_bind (Looks.at J.type (wpAny_bind (Looks.at (looks_findIn KX T.e1) ?_))))))))
  show wpAny _ _ (ite ((onTheHeap (Value.ref D) && Value.builtin "BaseException.__getattribute__" == Value.builtin "object.__getattribute__") = true) _ _) _ _ _
  rw [no2, if_neg Bool.false_ne_true]
  unfold getAttrByItsOwn hookBefore
  refine wpAny_bind ?_
  rw [if_pos (show onTheHeap (Value.ref D) = true from rfl)]
  refine Looks.at (looks_findIn KX T.e2) (wpAny_bind (wpAny_attempt (wpAny_holding ?_)))
  unfold callGetattribute
  rw [if_neg (show ¬ (false && onTheHeap (Value.builtin "BaseException.__getattribute__")) = true from Bool.false_ne_true)]
  unfold boundAndCalled
  rw [PySem.F.excAttr_ValueError.ga.bind (.ref x)]
  refine wpAny_bind (wpAny_pure (wpAny_call (codeAny_call_builtin PySem.F.excAttr_ValueError.ga.plain PySem.F.entry_bexc_ga ?_)))
  refine @check_slot (model prog w) _ _ ⟨hp, gs, dr, tk + 1, so⟩ "BaseException.__getattribute__" "BaseException" "__getattribute__" (.ref x) [.str "__class__" tk] [] _ (by decide +kernel) (by decide +kernel) isX (PySem.F.args_bexc_ga (.ref x) (.str "__class__" tk)) ?_
  unfold Builtin.«object.__getattribute__»
  refine wpAny_bind (wpAny_of_eq (a := ((Value.ref x : Value), [Value.str "__class__" tk])) (by first | rfl | (simp only [slotArgs]; rfl)) ?_)
  refine wpAny_bind (wpAny_pure (wpAny_bind (Looks.at J.type (wpAny_bind (Looks.at (looks_find KX J T.found) ?_)))))
  refine wpAny_bind (wpAny_holding (wpAny_call (class_get (s := ⟨hp, gs, dr, tk + 1, so⟩) (ox := ox) (od := od) KX J T.e8 (wpAny_pure ?_))))
  show wpAny _ _ (handedOut (.ref D)) _ _ _
  rw [handedOut_of (v := .ref D) rfl]
  first
    | exact wpAny_pure (wpAny_pure q)
    | exact wpAny_pure q
    | exact wpAny_pure (wpAny_bind (wpAny_pure (wpAny_pure q)))
theorem ExK.kit (T : ExK K D) : KitX K (.ref x) (.ref D) (fun h => ∃ od, InstAt h x ox D od) where
  ty := fun _ _ _ ⟨_, I⟩ => I.type
  it := fun _ _ X _ A Q E s k q => by
    obtain ⟨cd, hc⟩ := T.hasCls
    unfold clsIn at hc
    split at hc
    · rename_i ho
      unfold isType loadHead
      exact wpAny_bind (wpAny_loadPart (k _ _ (X _ _ ho)) (wpAny_pure q))
    · cases hc
  ne := fun h tp dd its n sl X htp => Bool.eq_false_iff.mpr fun q => by
    cases Value.ref.inj (beq_iff_eq.mp q)
    obtain ⟨cd, hc⟩ := T.hasCls
    unfold clsIn at hc
    split at hc
    · rename_i ho
      cases (X _ _ ho).symm.trans htp
    · cases hc
  ca := fun X ⟨_, I⟩ k => T.named X I k
end
section
open PySem PySem.Spec PySem.Calls PyProof.Rows
/-- the object oe lies at a -/
def ExP (a : Addr) (oe : Obj) : HO := .ext fun h => h.get? a = some oe
theorem exP_ok {P : Program} {w : World} {H : Hp} {h : Heap} {a : Addr} {oe : Obj} (e : h.get? a = some oe) : ObjOk P w H h a (ExP a oe) := ⟨e, ⟨oe, e⟩, fun _ _ q k => k _ q⟩
/-- an error of the class C with the fields fs lies at a -/
def ExV (H : Hp) (a C : Addr) (fs : List (Str × V)) : Prop := ∃ (oe : Obj) (d : Option Addr), H a = some (ExP a oe) ∧ Zc (.ref C) d oe ∧ (∃ vs, oe.data = .fields vs) ∧ ((d = none ∧ fs = []) ∨ ∃ dd, d = some dd ∧ H dd = some (.xd fs))
theorem ExV.same {H H' : Hp} {a C : Addr} {fs : List (Str × V)} (h : ExV H a C fs) (s : Same H H') : ExV H' a C fs := by
  obtain ⟨oe, d, h1, h2, h3, h4⟩ := h
  exact ⟨oe, d, s _ _ h1, h2, h3, h4.imp id fun ⟨dd, e, q⟩ => ⟨dd, e, s _ _ q⟩⟩
variable {X : Cx} {pins : List (Addr × Obj)} {σ : L2.St} {H : Hp} {s : Shared}
/-- what makes an exception, gives it as a value -/
theorem pe_mkV {e : Expr} {t : L2.St → Hp → XK → Prop} (h : PMk X e t) : PE X e (fun σ H Q => t σ H fun cls d H2 => ∀ (a : Addr) (oe : Obj), H2 a = none → Zc cls d oe → (∃ vs, oe.data = .fields vs) → Q (.ref a) (upd H2 a (ExP a oe))) := by
  refine ⟨fun pins s σ H Q I q => wpAny_mono (h pins s σ H _ I q) (fun u s1 hu => ?_) fun _ _ x => x⟩
  obtain ⟨a, oe, vs, sI, H', cls, d, rfl, J, k, hne, ha, hz, hd, _, na, os, ag, _, q⟩ := hu
  have J' : Inv X pins σ (upd H' a (ExP a oe)) { sI with heap := s1.heap, toks := s1.toks } := J.laidN (t' := s1.toks) k hne na (exP_ok ha)
  exact ⟨.ref a, _, ⟨J'.ok, os.trans J'.os, ag, J'.base, J'.loc, J'.cell, J'.free, J'.freeC, J'.pin, J'.hok, J'.len⟩, rfl, q a oe na hz ⟨vs, hd⟩⟩
/-- C(e, ..) as a value: what is known of the new error -/
def tErrV (C : Addr) (n : Nat) (fs : List (Str × Sum Nat Str)) (ta : TA) : TE := fun σ H Q => ta σ H fun vs H1 => vs.length = n ∧ ∀ a H2, Same H1 H2 → H1 a = none → ExV H2 a C (errF vs fs []) → Q (.ref a) H2
theorem errV_of {C : Addr} {fs : List (Str × Sum Nat Str)} {vs : List V} {H1 : Hp} {Q : VK} (k : ∀ a H2, Same H1 H2 → H1 a = none → ExV H2 a C (errF vs fs []) → Q (.ref a) H2) :
    errQ C fs vs H1 fun cls d H2 => ∀ (a : Addr) (oe : Obj), H2 a = none → Zc cls d oe → (∃ vs, oe.data = .fields vs) → Q (.ref a) (upd H2 a (ExP a oe)) := by
  cases fs with
  | nil => exact fun a oe na hz hd => k a _ ((Same.refl _).new na) na ⟨oe, none, upd_same, hz, hd, .inl ⟨rfl, rfl⟩⟩
  | cons p r =>
    intro d nd a oe na hz hd
    obtain ⟨nad, na1⟩ := none_upd na
    exact k a _ (((Same.refl _).new nd).new na) na1 ⟨oe, some d, upd_same, hz, hd, .inr ⟨d, rfl, upd_oth (Ne.symm nad) upd_same⟩⟩
theorem pe_errV {C fI : Addr} {st : Stmt} {q : Str} {ps : List Str} {fs : List (Str × Sum Nat Str)} {x : Str} {e : Expr} {es : List Expr} {ta : TA} {p pos : Pos} {k : Nat} (T : ErrC X.prog X.K C fI st q ps fs) (hm : X.mg x = some (.ref C)) (hsup : X.mg "super" = none) (hr : Room k X.A) (ha : PA X (e :: es) ta) (hg : Gl X x := by rfl)
    (hfs : fs.length ≤ 90 := by decide) (hps : ps.length ≤ 90 := by decide) (hdb : ∀ y ∈ (("self" : Str) :: ps), (y == ("__debug__" : Str)) = false := by decide) (hd : (x == ("__debug__" : Str)) = false := by decide)
    (he : starEach (e :: es) X.env = (false, eval e X.env) :: starEach es X.env := by rfl) (hpl : (backTo pos (starEach es X.env)).any (·.1) = false := by rfl)
    (mono : ∀ σ H Q Q', (∀ vs H1, Q vs H1 → Q' vs H1) → ta σ H Q → ta σ H Q') :
    PE X (.Call (.Name x p) (e :: es) [] pos) (tErrV C ps.length fs ta) := by
  have h := pe_mkV (pmk_err (p := p) T hm hsup hr ha hg hfs hps hdb hd he hpl)
  exact ⟨fun pins s σ H Q I q => h.run pins s σ H Q I (mono σ H _ _ (fun vs H1 ⟨l, z⟩ => ⟨l, errV_of z⟩) q)⟩
theorem pe_errV0 {C fI : Addr} {st : Stmt} {q : Str} {fs : List (Str × Sum Nat Str)} {x : Str} {p pos : Pos} {k : Nat} (T : ErrC X.prog X.K C fI st q [] fs) (hm : X.mg x = some (.ref C)) (hsup : X.mg "super" = none) (hr : Room k X.A) (hg : Gl X x := by rfl)
    (hfs : fs.length ≤ 90 := by decide) (hd : (x == ("__debug__" : Str)) = false := by decide) : PE X (.Call (.Name x p) [] [] pos) (tErrV C 0 fs tNil) := by
  have h := pe_mkV (pmk_err0 (p := p) (pos := pos) T hm hsup hr hg hfs hd)
  exact ⟨fun pins s σ H Q I q => h.run pins s σ H Q I ⟨q.1, errV_of q.2⟩⟩
theorem ExV.inst {a C : Addr} {fs : List (Str × V)} (I : Inv X pins σ H s) (h : ExV H a C fs) : ∃ oe od, PySem.W.InstAt s.heap a oe C od ∧ ((od = none ∧ fs = []) ∨ ∃ (o : Obj) (mA : Str → Option Value), od = some o ∧ (∀ n, PySem.W.lookIn n o = some (mA n)) ∧ ∀ n, RelO (fs.lookup n) (mA n)) := by
  obtain ⟨oe, d, h1, h2, ⟨vs, hv⟩, h4⟩ := h
  have ha : s.heap.get? a = some oe := (I.hok a _ h1).1
  have nc : PySem.W.notCls oe = true := by unfold PySem.W.notCls; rw [hv]
  rcases h4 with ⟨rfl, e⟩ | ⟨dd, rfl, hd⟩
  · exact ⟨oe, none, ⟨ha, h2.1, nc, by rw [h2.2]; trivial⟩, .inl ⟨rfl, e⟩⟩
  · obtain ⟨mA, hns, hr⟩ := (show ObjOk X.prog X.w H s.heap dd (.xd fs) from I.hok dd _ hd)
    obtain ⟨o, ho, hl⟩ := lookIn_ns hns
    exact ⟨oe, some o, ⟨ha, h2.1, nc, by rw [h2.2]; exact ho⟩, .inr ⟨o, mA, rfl, hl, hr⟩⟩
/-- isinstance(e, C') -/
theorem call_isV : CallR X (.builtin "isinstance") (fun xs H Q => ∃ (a C : Addr) (fs : List (Str × V)) (c : V) (cv : Value) (b : Bool), xs = [.ref a, c] ∧ ExV H a C fs ∧ ExK X.K C ∧ (∀ u, RelV c u → u = cv) ∧ PySem.W.kitOne X.K (.ref C) cv = some b ∧ Q (.bl b) H) := by
  intro pins s σ H xs us Q I r h
  obtain ⟨a, C, fs, c, cv, b, rfl, hx, T, hcv, e, q⟩ := h
  cases r with
  | cons rx rr =>
    cases rr with
    | cons rt rr =>
      cases rr
      cases rx
      cases hcv _ rt
      obtain ⟨oe, od, J, _⟩ := hx.inst I
      exact PySem.W.kia_one T.kit I.kIn ⟨od, J⟩ e (fun z => nomatch z) fun tk => ⟨.bl b, H, I.kept (t' := tk) fun _ _ z => z, rfl, q⟩
/-- e.f -/
theorem pe_xv {e : Expr} {te : TE} {n : Str} {pos : Pos} (he : PE X e te) (hb : attributeBase e n X.env (eval e X.env) = eval e X.env := by rfl) :
    PE X (.Attribute e n pos) (fun σ H Q => te σ H fun x H1 => ∃ (a C : Addr) (fs : List (Str × V)) (v : V), x = .ref a ∧ ExV H1 a C fs ∧ XfC X.K C ∧ PySem.W.findIn X.K (.ref C) n = some none ∧ fs.lookup n = some v ∧ Q v H1) := by
  refine ⟨fun pins s σ H Q I h => attr_of hb (thn (he.run pins s σ H _ I h) fun u s1 hh => ?_)⟩
  obtain ⟨x, H1, I1, rx, a, C, fs, v, rfl, hx, T, hno, l, q⟩ := hh
  obtain rfl : u = Value.ref a := rx
  obtain ⟨oe, od, J, k⟩ := hx.inst I1
  rcases k with ⟨_, rfl⟩ | ⟨o, mA, rfl, hl, hr⟩
  · cases l
  · obtain ⟨u, hu, ru⟩ := RelO.some_of (v := v) (o := mA n) (by rw [← l]; exact hr n)
    exact HandSPX.exc_get I1.kIn J T.ga T.gg T.exC (PySem.W.findObj_own T.hdC hno rfl (by rw [hl, hu])) (handed_of ru) ⟨v, H1, I1.tok _, ru, q⟩
end
/-! ### an own error made with keywords alone -/
section
open PySem PySem.Spec PySem.Calls PyProof.Rows PySem.HandSPX
variable {M : Model} {A : Around} {E : Value → Shared → Prop} {h : Heap} {g : Array GenState} {d : Drawn} {t : Nat} {os : OsState}
variable {nm q : Str} {C N : Addr} {bs bm bmB : List Value} {hdct : Bool} {sn : List Str} {sub : List Value} {ab : Bool} {col : Option Bool} {dd : Option Addr} {k0 k1 k2 k3 k5 : Option Value} {B newId initId : String}
theorem kw_new (F : ExcBaseFacts B newId initId bmB) (hT : ∀ X : String, bm.contains (.type X) = bmB.contains (.type X)) {kws : List (Str × Value)} {Q : Unit → Shared → Prop}
    (hC : h.get? C = some (excClassObj nm q C N bs bm hdct sn sub ab col dd k0 k1 k2 k3 k5 newId)) (z : Q () ⟨h, g, d, t, os⟩) : wpAny M A (checkBuiltinCall newId ⟨[.ref C], kws⟩) Q E ⟨h, g, d, t, os⟩ := by
  have inB : (Value.ref C :: bm).contains (.type B) = true := by rw [List.contains_cons, hT, F.hasB, Bool.or_true]
  have star := F.noStar
  simp only [checkBuiltinCall, F.newKind, F.newSplit, F.newRow]
  repeat (first | refine wpAny_loadPart_at hC ?_ | (refine wpAny_isSubtype_exc hC ?_; rw [inB]) | refine wpAny_staticBase_exc hC ?_ | refine wpAny_madeBy_exc hC ?_ | simp only [bne_self_eq_false, Bool.false_eq_true, if_false] | wp_step)
  exact z
end
section
open PySem PySem.Spec PySem.Calls PyProof.Rows PySem.HandSPX
variable {prog : Program} {w : World} {A : Around} {E : Value → Shared → Prop} {R : Result → Shared → Prop} {h : Heap} {g : Array GenState} {d : Drawn} {t : Nat} {os : OsState}
variable {nm q : Str} {C N : Addr} {bs bm bmB : List Value} {hdct : Bool} {sn : List Str} {sub : List Value} {ab : Bool} {col : Option Bool} {dd : Option Addr} {k0 k1 k2 k3 k5 : Option Value} {B newId initId : String}
theorem kw_made (F : ExcBaseFacts B newId initId bmB) (hT : ∀ X : String, bm.contains (.type X) = bmB.contains (.type X)) {kws : List (Str × Value)}
    (hC : h.get? C = some (excClassObj nm q C N bs bm hdct sn sub ab col dd k0 k1 k2 k3 k5 newId))
    (z : R (.ok (.ret (.ref (h.objs.size + 1)))) ⟨(h.push (PySem.W.kdv_tup [])).push (excO C h.objs.size), g, d, t, os⟩) :
    codeAny (model prog w) A (.builtin newId ⟨[.ref C], kws⟩) R ⟨h, g, d, t, os⟩ := by
  have ends := F.ends
  have inB : (Value.ref C :: bm).contains (.type B) = true := by rw [List.contains_cons, hT, F.hasB, Bool.or_true]
  have inA : (Value.ref C :: bm).contains (.type "AttributeError") = false := by rw [List.contains_cons, hT, F.noAttr]; rfl
  have inN : (Value.ref C :: bm).contains (.type "NameError") = false := by rw [List.contains_cons, hT, F.noName]; rfl
  refine codeAny_builtinAt F.entry ?_
  unfold Builtin.«BaseException.__new__»
  refine PySem.wpAt_bind ?_
  show PySem.wpAt _ _ _ (stack >>= _) _ _ _
  refine PySem.wpAt_bind (PySem.wpAt_stack fun p below => PySem.wpAt_of_wpAny ?_)
  wp_walk
  refine PySem.wpAt_of_wpAny ?_
  rw [F.owner]
  repeat (first | with_reducible refine wpAny_madeHere_exc F.canon hC ?_ | with_reducible refine wpAny_loadPart_at hC ?_ | (with_reducible refine wpAny_isSubtype_exc hC ?_; first | rw [inB] | rw [inA] | rw [inN]) | wp_step)
  show R _ _
  rw [Heap.size_push]
  exact z
theorem kw_type (F : ExcBaseFacts B newId initId bmB) (hT : ∀ X : String, bm.contains (.type X) = bmB.contains (.type X)) {kws : List (Str × Value)} {fI : Addr} {Q : Fin → Shared → Prop}
    (hC : h.get? C = some (excClassObj nm q C N bs bm hdct sn sub ab col dd k0 k1 k2 k3 k5 newId))
    (hi : W.Looks (model prog w) h (typeLookup (.ref C) "__init__") (some (.ref fI))) (hb : ∀ self, W.Looks (model prog w) h (bindSpecial (.ref fI) self) (.ref fI, [self]))
    (z : codeAny (model prog w) A (.call (.ref fI) ⟨[.ref (h.objs.size + 1)], kws⟩)
      (fun r s' => match r with | .ok (.ret v) => v = .none ∧ Q (.done (.ret (.ref (h.objs.size + 1)))) s' | .ok _ => False | .error e => E e s')
      ⟨(h.push (W.kdv_tup [])).push (excO C h.objs.size), g, d, t, os⟩) :
    wpAny (model prog w) A (Builtin.«type.__call__» ⟨[.ref C], kws⟩) Q E ⟨h, g, d, t, os⟩ := by
  repeat (first | with_reducible refine wpAny_loadPart_at hC ?_ | with_reducible refine wpAny_madeBy_exc hC ?_ | wp_step)
  refine codeAny_call_builtin_code (Code.quiet_builtin _ F.quiet) (kw_new F hT hC ?_)
  refine kw_made F hT hC ?_
  show wpAny _ _ _ _ _ _
  have up : ∀ b o, h.get? b = some o → ((h.push (W.kdv_tup [])).push (excO C h.objs.size)).get? b = some o := fun b o e => Heap.get?_push_of_some _ (Heap.get?_push_of_some _ e)
  have atC := up _ _ hC
  have atE : ((h.push (W.kdv_tup [])).push (excO C h.objs.size)).get? (h.objs.size + 1) = some (excO C h.objs.size) := by heap_get
  have own : (Value.ref C :: bm).contains (.ref C) = true := by simp
  unfold isInstance
  repeat (first | with_reducible refine wpAny_loadPart_at atE ?_ | (with_reducible refine wpAny_isSubtype_exc atC ?_; rw [own]) | wp_step)
  show wpAny _ _ (typeLookup (.ref C) _) _ _ _
  refine (hi.keeps up).at (wpAny_holding (wpAny_bind (((hb (.ref (h.objs.size + 1))).keeps up).at (wpAny_bind (wpAny_call (codeAny_mono z fun r s' y => ?_))))))
  rcases r with e | (v | _ | _ | _) <;> first | exact y | exact y.elim | skip
  obtain ⟨rfl, y⟩ := y
  first
    | exact wpAny_pure (wpAny_pure y)
    | (wp_walk; exact y)
theorem kw_check {M : Model} {kws : List (Str × Value)} {Q : Unit → Shared → Prop} {E : Value → Shared → Prop} (hC : h.get? C = some (excClassObj nm q C N bs bm hdct sn sub ab col dd k0 k1 k2 k3 k5 newId))
    (z : Q () ⟨h, g, d, t, os⟩) : wpAny M A (checkBuiltinCall "type.__call__" ⟨[.ref C], kws⟩) Q E ⟨h, g, d, t, os⟩ := by
  have sub := tc_sub
  have ty : (⟨h, g, d, t, os⟩ : Shared).TypeIs (.ref C) "type" := ⟨_, hC, rfl⟩
  simp only [checkBuiltinCall, tc_kind, tc_split]
  repeat (any_goals (first | assumption | with_reducible refine wpAny_loadPart_at hC ?_ | with_reducible refine wpAny_onRaise ?_ | with_reducible refine wpAny_map ?_ | wp_step))
theorem kw_call (F : ExcBaseFacts B newId initId bmB) (hT : ∀ X : String, bm.contains (.type X) = bmB.contains (.type X)) {kws : List (Str × Value)} {fI : Addr}
    (hC : h.get? C = some (excClassObj nm q C N bs bm hdct sn sub ab col dd k0 k1 k2 k3 k5 newId))
    (hi : W.Looks (model prog w) h (typeLookup (.ref C) "__init__") (some (.ref fI))) (hb : ∀ self, W.Looks (model prog w) h (bindSpecial (.ref fI) self) (.ref fI, [self]))
    (z : codeAny (model prog w) (A.under (.builtin "type.__call__" ⟨[.ref C], kws⟩)) (.call (.ref fI) ⟨[.ref (h.objs.size + 1)], kws⟩) (W.InitBack (h.objs.size + 1) R)
      ⟨(h.push (W.kdv_tup [])).push (excO C h.objs.size), g, d, t, os⟩) :
    codeAny (model prog w) A (.call (.ref C) ⟨[], kws⟩) R ⟨h, g, d, t, os⟩ := by
  have look := tc_lookup
  have bind := tc_bind (.ref C)
  have ty : (⟨h, g, d, t, os⟩ : Shared).TypeIs (.ref C) "type" := ⟨_, hC, rfl⟩
  refine codeAny_of_tree ?_
  show wpAny _ _ (callAny (.ref C) _) _ _ _
  repeat (any_goals (first | assumption | with_reducible refine wpAny_loadPart_at hC ?_ | wp_step))
  refine ⟨rfl, codeAny_call_builtin_at (Code.quiet_builtin _ (by decide +kernel)) entry_typeCall (kw_check hC (kw_type F hT hC hi hb (codeAny_mono z fun r s' y => ?_)))⟩
  rcases r with e | (v | _ | _ | _) <;> exact y
end
/-! ### an own error made with keywords alone, over the layer -/
section
open PySem PySem.Spec PyProof.Rows
variable {X : Cx} {C fI : Addr} {st : Stmt} {q : Str} {ps : List Str} {fs : List (Str × Sum Nat Str)}
theorem err_madeK {kws : List (Str × Value)} (T : ErrC X.prog X.K C fI st q ps fs) {pins : List (Addr × Obj)} {σ : L2.St} {H1 : Hp} {s1 : Shared} {Q : XK} {vs : List V} {us : List Value} {k : Nat} (hsup : X.mg "super" = none) (hr : Room k X.A) (hfs : fs.length ≤ 90)
    (hdb : ∀ y ∈ (("self" : Str) :: ps), (y == ("__debug__" : Str)) = false) (I1 : Inv X pins σ H1 s1) (r : Vals vs us) (hl : vs.length = ps.length) (hba : ∀ (x : Addr) (doc pm : Value) (an : Option Addr) (cda cc : Addr) (ct : Value), bindArgs (PySem.W.ksFn "__init__" q (defArgs st) (defBody st) (defScope st) .none .none doc pm an (.ref cda) ct cc) ⟨[.ref x], kws⟩ = pure ((("self" : Str) :: ps).zip (.ref x :: us)))
    (q1 : errQ C fs vs H1 Q) :
    wpAny (model X.prog X.w) X.A (call (.ref C) [] kws) (MkP X pins σ Q) X.xe s1 := by
  obtain ⟨nm, qn, N, bs, bm, sn, sub, ab, col, dd0, k0, k1, k2, k3, k5, hC, hbm⟩ := T.cls
  have hlim := I1.nolimit
  have KX := I1.kIn
  have G := I1.mod.glob.keeps I1.bk
  have B : ∃ mb, s1.heap.Ns builtinsNs mb ∧ ∀ y : Str, y ≠ "__name__" → mb y = bootBuiltins y := by
    obtain ⟨mb, b1, b2⟩ := I1.mod.blt
    exact ⟨mb, b1.keeps I1.bk, b2⟩
  obtain ⟨hp, g, dr, tk, os⟩ := s1
  have kk : ∀ b o, hp.get? b = some o → ((hp.push (PySem.W.kdv_tup [])).push (PySem.HandSPX.excO C hp.objs.size)).get? b = some o := fun b o e => Heap.get?_push_of_some _ (Heap.get?_push_of_some _ e)
  have hget : ((hp.push (PySem.W.kdv_tup [])).push (PySem.HandSPX.excO C hp.objs.size)).get? (hp.objs.size + 1) = some (PySem.HandSPX.excO C hp.objs.size) := by heap_get
  have hnx : X.K.lookup (hp.objs.size + 1) = none := by
    cases e : X.K.lookup (hp.objs.size + 1) with
    | none => rfl
    | some o =>
      have z : hp.get? (hp.objs.size + 1) = some o := KX _ _ e
      exact absurd (Nat.lt_of_succ_lt (Heap.lt_size z)) (Nat.lt_irrefl _)
  refine wpAny_call (kw_call F.excBase_ValueError (fun Y => PySem.HandSPX.refsVE_contains Y bm hbm) (KX _ _ hC) (PySem.W.looks_findIn KX T.iC) (fun self => PySem.W.bind_fn KX self T.tC) ?_)
  have hdp := hr.dp
  refine err_initA T (vs := vs) (mg := X.mg) (s := ⟨(hp.push (PySem.W.kdv_tup [])).push (PySem.HandSPX.excO C hp.objs.size), g, dr, tk, os⟩) (KX.keeps kk) (hlim.keeps kk) (G.keeps kk) hsup (let ⟨mb, b1, b2⟩ := B; ⟨mb, b1.keeps kk, b2⟩) hget hnx ?_ r hl hfs hdb (fun doc pm an cda cc ct => hba _ doc pm an cda cc ct) fun h' tk' dd L m hLx hLz S => ?_
  · show X.A.depth + 1 < recursionLimit
    omega
  obtain ⟨kp, sz, hn, ⟨t1, hx⟩, hd⟩ := S
  have e2 : ((hp.push (PySem.W.kdv_tup [])).push (PySem.HandSPX.excO C hp.objs.size)).objs.size = hp.objs.size + 2 := by simp [Heap.size_push]
  have old0 : ∀ b o, hp.get? b = some o → h'.get? b = some o := fun b o e => kp b o (Nat.ne_of_lt (Nat.lt_succ_of_lt (Heap.lt_size e))) (kk b o e)
  obtain ⟨G', g1, g2⟩ := restrict h' fun b => decide (b ≠ hp.objs.size + 1)
  have gk : ∀ b, b ≠ hp.objs.size + 1 → G'.get? b = h'.get? b := fun b hb => g1 b (decide_eq_true hb)
  have ge : G'.get? (hp.objs.size + 1) = none := g2 _ (by simp)
  have old : ∀ b o, hp.get? b = some o → G'.get? b = some o := fun b o e => (gk b (Nat.ne_of_lt (Nat.lt_succ_of_lt (Heap.lt_size e)))).trans (old0 b o e)
  have sub2 : ∀ b o, G'.get? b = some o → h'.get? b = some o := fun b o e => by
    by_cases hb : b = hp.objs.size + 1
    · rw [hb, ge] at e; cases e
    · rw [← gk b hb]; exact e
  refine ⟨rfl, ?_⟩
  show MkP X pins σ Q (.ref (hp.objs.size + 1)) ⟨h', g, dr, tk', os⟩
  cases dd with
  | none =>
    have hd : errF vs fs [] = [] := hd
    obtain ⟨rfl, _⟩ := errF_nil hd
    have J : Inv X pins σ H1 ⟨G', g, dr, tk', os⟩ := I1.kept (t' := tk') old
    exact ⟨hp.objs.size + 1, _, _, ⟨G', g, dr, tk', os⟩, H1, .ref C, none, rfl, J, sub2, ge, hx, ⟨rfl, rfl⟩, rfl, rfl, I1.hok.fresh (Nat.le_succ _), rfl, I1.bare, raises_own T.exC T.tyC, q1⟩
  | some dx =>
    obtain ⟨d0, d1, d2, d3, mA, hns, rel⟩ := hd
    rw [e2] at d1
    have hdx : hp.objs.size ≤ dx := Nat.le_trans (Nat.le_add_right _ 2) d1
    have nd : H1 dx = none := I1.hok.fresh hdx
    have ob : ObjOk X.prog X.w (upd H1 dx (.xd (errF vs fs []))) G' dx (.xd (errF vs fs [])) := ⟨mA, hns.at (fun o q => (gk dx d2).trans q), rel⟩
    have J : Inv X pins σ (upd H1 dx (.xd (errF vs fs []))) ⟨G', g, dr, tk', os⟩ := I1.laid (t' := tk') old hdx ob
    refine ⟨hp.objs.size + 1, _, _, ⟨G', g, dr, tk', os⟩, _, .ref C, some dx, rfl, J, sub2, ge, hx, ⟨rfl, rfl⟩, rfl, rfl, ?_, rfl, I1.bare, raises_own T.exC T.tyC, ?_⟩
    · rw [upd_ne (Ne.symm d2)]
      exact I1.hok.fresh (Nat.le_succ _)
    · cases fs with
      | nil =>
        exact absurd rfl d0
      | cons p r => exact q1 dx nd
theorem pe_errK {x : Str} {kws : List Keyword} {tk : TA} {p pos : Pos} {k : Nat} {ks : List Str} (g : {α : Type} → List α → List α) (T : ErrC X.prog X.K C fI st q ps fs) (hm : X.mg x = some (.ref C)) (hsup : X.mg "super" = none) (hr : Room k X.A) (hkw : PK X kws tk)
    (hba : ∀ (ws : List Value) (x : Addr) (doc pm : Value) (an : Option Addr) (cda cc : Addr) (ct : Value), ws.length = ks.length → bindArgs (PySem.W.ksFn "__init__" q (defArgs st) (defBody st) (defScope st) .none .none doc pm an (.ref cda) ct cc) ⟨[.ref x], ks.zip ws⟩ = pure ((("self" : Str) :: ps).zip (.ref x :: g ws)))
    (hgr : ∀ {zs : List V} {ws : List Value}, Vals zs ws → Vals (g zs) (g ws)) (hgl : ∀ zs : List V, zs.length = ks.length → (g zs).length = ps.length)
    (mono : ∀ σ H Q Q', (∀ vs H1, Q vs H1 → Q' vs H1) → tk σ H Q → tk σ H Q')
    (hall : (backToKw pos (keywordEach kws X.env)).all (·.1.isSome) = true := by rfl) (hks : (backToKw pos (keywordEach kws X.env)).filterMap (·.1) = ks := by rfl) (hg : Gl X x := by rfl)
    (hfs : fs.length ≤ 90 := by decide) (hdb : ∀ y ∈ (("self" : Str) :: ps), (y == ("__debug__" : Str)) = false := by decide) (hd : (x == ("__debug__" : Str)) = false := by decide)
    (hpl : ((backTo pos (starEach [] X.env)).any (·.1) || (backToKw pos (keywordEach kws X.env)).any (·.1.isNone)) = false := by rfl) :
    PE X (.Call (.Name x p) [] kws pos) (fun σ H Q => tk σ H fun zs H1 => zs.length = ks.length ∧ ∀ a H2, Same H1 H2 → H1 a = none → ExV H2 a C (errF (g zs) fs []) → Q (.ref a) H2) := by
  have h : PMk X (.Call (.Name x p) [] kws pos) (fun σ H Q => tk σ H fun zs H1 => zs.length = ks.length ∧ errQ C fs (g zs) H1 Q) := by
    intro pins s σ H Q I h
    refine wpAny_Call_Name_kw (ld_glob I hg hm ?_ hd)
    refine PySem.W.callWith_KW0 (h₀ := X.base) I.ok.mod.kin T.kC hall ?_ hpl
    refine thn (hkw.run pos pins s σ H _ I h) fun ws s2 ⟨zs, H2, I2, rz, l2, q2⟩ => ⟨I2.kIn, ?_⟩
    rw [hks]
    exact err_madeK T hsup hr hfs hdb I2 (hgr rz) (hgl zs l2) (fun x doc pm an cda cc ct => hba ws x doc pm an cda cc ct (rz.length.symm.trans l2)) q2
  have h2 := pe_mkV h
  exact ⟨fun pins s σ H Q I q => h2.run pins s σ H Q I (mono σ H _ _ (fun vs H1 ⟨l, z⟩ => ⟨l, errV_of z⟩) q)⟩
end
theorem mono_v1 {i : Nat} : ∀ (σ : L2.St) (H : Hp) (Q Q' : List V → Hp → Prop), (∀ vs H1, Q vs H1 → Q' vs H1) → tCons (tVar i) tNil σ H Q → tCons (tVar i) tNil σ H Q' := fun _ _ _ _ h ⟨v, e, q⟩ => ⟨v, e, h _ _ q⟩
theorem mono_v2 {i j : Nat} : ∀ (σ : L2.St) (H : Hp) (Q Q' : List V → Hp → Prop), (∀ vs H1, Q vs H1 → Q' vs H1) → tCons (tVar i) (tCons (tVar j) tNil) σ H Q → tCons (tVar i) (tCons (tVar j) tNil) σ H Q' := fun _ _ _ _ h ⟨v, e, u, e2, q⟩ => ⟨v, e, u, e2, h _ _ q⟩
/-! ### defs under which repr is asked: no guard is up, the table of modules is a dict -/
section
open PySem PySem.Spec PyProof.Rows
def GdB (A : Around) (base : Heap) : Prop := A.guards = some [] ∧ ∃ mm, base.Ns sysModules mm
structure FnG (P : Program) (w : World) (K : PySem.W.Frag) (mg : Str → Option Value) (base : Heap) (CX : CXT) (k : Nat) (f : Addr) (fd : FuncData) (ps : List Str) (sp : Sp) : Prop where
  len : ∀ vs H Q E, sp vs H Q E → vs.length = ps.length
  run : ∀ (A : Around) (outer : List Env) (s : Shared) (H : Hp) (args : Args) (us : List Value) (vs : List V) (Q : VK) (E : XK), Room k A → GdB A base → Env0 P w K mg base A outer s H → BindsTo s fd args (ps.zip us) → Vals vs us → sp vs H Q E →
    codeAny (model P w) A (.call (.ref f) args) (CR CX outer P w H s Q E) s
theorem FnG.of {P : Program} {w : World} {K : PySem.W.Frag} {mg : Str → Option Value} {base : Heap} {CX : CXT} {k : Nat} {f : Addr} {fd : FuncData} {ps : List Str} {sp : Sp} (F : FnOk P w K mg base CX k f fd ps sp) : FnG P w K mg base CX k f fd ps sp :=
  ⟨F.len, fun A outer s H args us vs Q E hr _ => F.run A outer s H args us vs Q E hr⟩
theorem FnG.mono {P : Program} {w : World} {K : PySem.W.Frag} {mg : Str → Option Value} {base : Heap} {CX : CXT} {j k : Nat} {f : Addr} {fd : FuncData} {ps : List Str} {sp : Sp} (F : FnG P w K mg base CX j f fd ps sp) (h : j ≤ k) : FnG P w K mg base CX k f fd ps sp :=
  ⟨F.len, fun A outer s H args us vs Q E hr => F.run A outer s H args us vs Q E (hr.mono h)⟩
theorem fn_ofG {CX : CXT} {P : Program} {w : World} {K : PySem.W.Frag} {mg : Str → Option Value} {base : Heap} {k : Nat} {f : Addr} {name qual : Str} {params : Arguments} {body : List Stmt} {scope : Scope} {dV kV doc pm cdv ct oc : Value} {an od : Option Addr}
    {osl : Array (Option Value)} {N ps : List Str} {sp : Sp} (lk : K.lookup f = some ⟨oc, od, .func (PySem.W.fnOf name qual params body scope dV kV doc pm an cdv ct), osl⟩) (hcd : PySem.W.codeIn K cdv qual = true) (S : FnScope N ps scope)
    (len : ∀ vs H Q E, sp vs H Q E → vs.length = ps.length)
    (hbody : ∀ (A : Around) (outer : List Env) (s : Shared) (H : Hp) (vs : List V) (Q : VK) (E : XK), Room k (A.deeper (envOfC qual scope s.heap.objs.size f cdv)) → GdB A base → sp vs H Q E →
      ∃ t, PSs (cxOf CX P w K mg base N qual scope f cdv A outer s H E) body t ∧ t { nx := fun _ H' => Q .non H', rt := Q } (start N vs) H) :
    FnG P w K mg base CX (k + 1) f (PySem.W.fnOf name qual params body scope dV kV doc pm an cdv ct) ps sp := by
  refine ⟨len, fun A outer s H args us vs Q E hr hg e0 hb r hsp => ?_⟩
  have hl := len _ _ _ _ hsp
  have KX : K.In s.heap := e0.mod.kin.keeps fun b o e => (e0.bs b o e).1
  have lim : s.heap.NoLimit := e0.mod.nolimit.keeps fun b o e => (e0.bs b o e).1
  have hkind : ∀ y ∈ ps.zip us, scope.names.lookup y.1 = some .local ∨ (scope.names.lookup y.1 = some .cell ∧ ((cellsFrom (s.heap.objs.size + 1) scope.names []).lookup y.1).isSome = true) := fun ⟨n, v⟩ hy => by
    rcases S.par n (List.of_mem_zip hy).1 with q | q
    · exact .inl q
    · exact .inr ⟨q, PySem.W.cellsFrom_some _ _ _ (.inl q)⟩
  refine codeAny_call_function hr.depth (KX _ _ lk) rfl S.co S.gen rfl (PySem.W.codeRec_of KX hcd) (hb _ _ _ _ ?_)
  refine wpAny_newFunctionEnv_cells S.kind hkind fun env he s1 x => ?_
  subst he
  refine ⟨lim.keeps x.toInCall.keep, codeAny_func ?_⟩
  obtain ⟨t, ht, hq⟩ := hbody A outer s H vs Q E (hr.deeper _) hg hsp
  have I : Inv (cxOf CX P w K mg base N qual scope f cdv A outer s H E) [] (start N vs) H s1 := inv_start S hr.hd e0 hl r x
  refine wpAny_mono (ht.run [] s1 (start N vs) H _ I hq) (fun fl s' hs => ?_) fun e s' hs => hs
  have fin : ∀ {σ' : L2.St} {H' : Hp} {v : V} {u : Value}, Inv (cxOf CX P w K mg base N qual scope f cdv A outer s H E) [] σ' H' s' → RelV v u → Q v H' → CE outer P w H s Q u s' :=
    fun {σ' H' v u} J rv q => ⟨v, H', J.os, J.bare, J.base, J.hok, rv, q⟩
  cases fl with
  | ret u =>
    obtain ⟨v, σ', H', J, rv, q⟩ := hs
    exact fin J rv q
  | next =>
    obtain ⟨σ', H', J, q⟩ := hs
    exact fin (v := V.non) (u := Value.none) J rfl q
  | brk =>
    obtain ⟨_, _, _, q⟩ := hs
    exact False.elim q
  | cont =>
    obtain ⟨_, _, _, q⟩ := hs
    exact False.elim q
theorem okG {P : Program} {w : World} {K : PySem.W.Frag} {mg : Str → Option Value} {base : Heap} {x qual : Str} {st : Stmt} {f : Addr} {fd : FuncData} {N ps : List Str} {k : Nat} {sp : Sp} (F : L2.Fun K x qual st f fd) (S : FnScope N ps (defScope st)) (len : ∀ vs H Q E, sp vs H Q E → vs.length = ps.length)
    (hbody : ∀ (cdv : Value) (A : Around) (outer : List Env) (s : Shared) (H : Hp) (vs : List V) (Q : VK) (E : XK), Room k (A.deeper (envOfC qual (defScope st) s.heap.objs.size f cdv)) → GdB A base → sp vs H Q E →
      ∃ t, PSs (cxOf CX0 P w K mg base N qual (defScope st) f cdv A outer s H E).nox (defBody st) t ∧ t { nx := fun _ H' => Q .non H', rt := Q } (start N vs) H) : FnG P w K mg base CX0 (k + 1) f fd ps sp := by
  obtain ⟨oc, od, kV, doc, pm, an, cdv, ct, osl, rfl, lk, hcd⟩ := F.ex
  refine fn_ofG lk hcd S len fun A outer s H vs Q E hr hg hsp => ?_
  obtain ⟨t, h, q⟩ := hbody cdv A outer s H vs Q E hr hg hsp
  exact ⟨t, h.nox, q⟩
theorem okGX {P : Program} {w : World} {K : PySem.W.Frag} {mg : Str → Option Value} {base : Heap} {x qual : Str} {st : Stmt} {f : Addr} {fd : FuncData} {N ps : List Str} {k : Nat} {sp : Sp} (F : L2.Fun K x qual st f fd) (S : FnScope N ps (defScope st)) (len : ∀ vs H Q E, sp vs H Q E → vs.length = ps.length)
    (hbody : ∀ (cdv : Value) (A : Around) (outer : List Env) (s : Shared) (H : Hp) (vs : List V) (Q : VK) (E : XK), Room k (A.deeper (envOfC qual (defScope st) s.heap.objs.size f cdv)) → GdB A base → sp vs H Q E →
      ∃ t, PSs (cxOf (L2.CX P w) P w K mg base N qual (defScope st) f cdv A outer s H E) (defBody st) t ∧ t { nx := fun _ H' => Q .non H', rt := Q } (start N vs) H) : FnG P w K mg base (L2.CX P w) (k + 1) f fd ps sp := by
  obtain ⟨oc, od, kV, doc, pm, an, cdv, ct, osl, rfl, lk, hcd⟩ := F.ex
  exact fn_ofG lk hcd S len fun A outer s H vs Q E hr hg hsp => hbody cdv A outer s H vs Q E hr hg hsp
section
variable {X : Cx} {CX : CXT} {k : Nat} {f C : Addr} {fd : FuncData} {ps : List Str} {sp : Sp} {dvs : List V} {ds : List Value} {E : XK} {x m : Str} {p pos apos : Pos} {e o : Expr} {es : List Expr} {ta : TE} {t : TA}
theorem run_fnG {pins : List (Addr × Obj)} {σ : L2.St} {H : Hp} {s : Shared} {Q : VK} {us : List Value} {vs : List V} (F : FnG X.prog X.w X.K X.mg X.base CX k f fd ps sp) (hr : Room k X.A) (hgd : GdB X.A X.base) (hb : Binds X.K fd ps ds) (hd : Vals dvs ds) (hx : Passes CX X E)
    (I : Inv X pins σ H s) (r : Vals vs us) (h : sp (vs ++ dvs) H Q E) : wpAny (model X.prog X.w) X.A (call (.ref f) us) (EP X pins σ Q) X.xe s := by
  have r2 : Vals (vs ++ dvs) (us ++ ds) := r.append hd
  have hl : (us ++ ds).length = ps.length := by rw [← r2.length]; exact F.len _ _ _ _ h
  refine wpAny_call (codeAny_mono (F.run X.A X.stack s H ⟨us, []⟩ (us ++ ds) (vs ++ dvs) Q E hr hgd I.env0 (hb s us I.kIn hl) r2 h) fun r s' hq => ?_)
  cases r with
  | error e => exact hx pins σ H s e s' I hq
  | ok fl =>
    cases fl with
    | ret u => exact I.after hq
    | next => exact False.elim hq
    | brk => exact False.elim hq
    | cont => exact False.elim hq
theorem pe_callG (F : FnG X.prog X.w X.K X.mg X.base CX k f fd ps sp) (hr : Room k X.A) (hgd : GdB X.A X.base) (hg : Gl X x) (hm : X.mg x = some (.ref f)) (hk : PySem.W.keepIn X.K (.ref f) = true) (hb : Binds X.K fd ps ds) (hd : Vals dvs ds) (hx : Passes CX X E)
    (ha : PA X (e :: es) t) (hdb : (x == ("__debug__" : Str)) = false := by decide) (he : starEach (e :: es) X.env = (false, eval e X.env) :: starEach es X.env := by rfl) (hpl : (backTo pos (starEach es X.env)).any (·.1) = false := by rfl) :
    PE X (.Call (.Name x p) (e :: es) [] pos) (tCall sp dvs E t) := by
  refine ⟨fun pins s σ H Q I h => ?_⟩
  refine wpAny_Call_Name_kw (ld_glob I hg hm ?_ hdb)
  refine PySem.W.callWith_K (h₀ := X.base) I.ok.mod.kin hk (thn (ha.run pos pins s σ H _ I h) fun us s1 ⟨vs, H1, I1, r, q⟩ => ⟨I1.kIn, ?_⟩) he hpl
  exact run_fnG F hr hgd hb hd hx I1 r q
/-! data with dicts -/
def kD : Key → PyData
  | .inl i => .int i
  | .inr x => .str x
mutual
inductive Dq (K : PySem.W.Frag) (H : Hp) : V → PyData → Prop
  | non : Dq K H .non .none
  | bl (b : Bool) : Dq K H (.bl b) (.bool b)
  | int (i : Int) : Dq K H (.int i) (.int i)
  | str (x : Str) : Dq K H (.str x) (.str x)
  | lst {a : Addr} {xs : List V} {ds : List PyData} (h : SqL K H a xs) (g : DqAll K H xs ds) : Dq K H (.ref a) (.list ds)
  | tup {a : Addr} {xs : List V} {ds : List PyData} (h : SqT K H a xs) (g : DqAll K H xs ds) : Dq K H (.ref a) (.tuple ds)
  | dct {a : Addr} {kvs : List (Key × V)} {ds : List (PyData × PyData)} (h : H a = some (.dK kvs)) (g : DqKv K H kvs ds) : Dq K H (.ref a) (.dict ds)
inductive DqAll (K : PySem.W.Frag) (H : Hp) : List V → List PyData → Prop
  | nil : DqAll K H [] []
  | cons {v : V} {vs : List V} {d : PyData} {ds : List PyData} (h : Dq K H v d) (g : DqAll K H vs ds) : DqAll K H (v :: vs) (d :: ds)
inductive DqKv (K : PySem.W.Frag) (H : Hp) : List (Key × V) → List (PyData × PyData) → Prop
  | nil : DqKv K H [] []
  | cons {k : Key} {v : V} {r : List (Key × V)} {d : PyData} {ds : List (PyData × PyData)} (h : Dq K H v d) (g : DqKv K H r ds) : DqKv K H ((k, v) :: r) ((kD k, d) :: ds)
end
theorem notMods {h h' : Heap} (hm : ∃ mm, h.Ns sysModules mm) (k : ∀ b o, h.get? b = some o → h'.get? b = some o) {a : Addr} {o : Obj} (e : h'.get? a = some o) (n : ∀ es ep, o.data ≠ .dict es ep) : ¬ sysModules = a := fun z => by
  obtain ⟨mm, o', es, ep, e', d, _⟩ := hm
  rw [← z, k _ _ e'] at e
  cases e
  exact n _ _ d
section
variable {pins : List (Addr × Obj)} {σ : L2.St} {H : Hp} {s : Shared}
mutual
theorem Dq.reads (I : Inv X pins σ H s) (hm : ∃ mm, X.base.Ns sysModules mm) : ∀ (d : PyData) (v : V) (u : Value), Dq X.K H v d → RelV v u → ∃ as, Reads s.heap u d as ∧ sysModules ∉ as
  | .none, _, _, h, r => by
    cases h; cases r
    exact ⟨_, Reads.none, by simp⟩
  | .bool b, _, _, h, r => by
    cases h; cases r
    exact ⟨_, Reads.bool b, by simp⟩
  | .int i, _, _, h, r => by
    cases h
    obtain ⟨t, rfl⟩ := r
    exact ⟨_, Reads.int i t, by simp⟩
  | .str x, _, _, h, r => by
    cases h
    obtain ⟨t, rfl⟩ := r
    exact ⟨_, Reads.str x t, by simp⟩
  | .list ds, _, _, h, r => by
    cases h with
    | lst h1 h2 =>
      cases r
      obtain ⟨its, rv, ⟨o, n, ho, hc, _, hd⟩, _⟩ := I.list h1
      obtain ⟨as, q1, q2⟩ := DqAll.readsN I hm ds _ its h2 rv
      refine ⟨_, .list ho hc hd q1, fun z => ?_⟩
      rcases List.mem_cons.mp z with z | z
      · exact notMods hm I.bk ho (fun es ep e => by rw [hd] at e; cases e) z
      · exact q2 z
  | .tuple ds, _, _, h, r => by
    cases h with
    | tup h1 h2 =>
      cases r
      obtain ⟨its, rv, ⟨o, ho, hc, n, hd⟩, _⟩ := I.tuple h1
      obtain ⟨as, q1, q2⟩ := DqAll.readsN I hm ds _ its h2 rv
      exact ⟨_, .tuple ho hc hd q1, q2⟩
  | .dict ds, _, _, h, r => by
    cases h with
    | dct h1 h2 =>
      cases r
      obtain ⟨_, ns, vs, rel, o, es, ep, ho, hx, hd, _, hp, _⟩ := dk_of I.hok h1
      obtain ⟨as, bs, q1, q2, q3, q4⟩ := DqKv.readsN I hm ds _ vs es.toList h2 rel hp
      refine ⟨_, .dict ho hx.1 hd q1 q2, fun z => ?_⟩
      rcases List.mem_append.mp z with z | z
      · rcases List.mem_cons.mp z with z | z
        · rw [← z] at ns
          exact absurd ns (by simp)
        · exact q3 z
      · exact q4 z
theorem DqAll.readsN (I : Inv X pins σ H s) (hm : ∃ mm, X.base.Ns sysModules mm) : ∀ (ds : List PyData) (vs : List V) (us : List Value), DqAll X.K H vs ds → Vals vs us → ∃ as, ReadsAll s.heap us ds as ∧ sysModules ∉ as
  | [], _, _, h, r => by
    cases h; cases r
    exact ⟨_, .nil, by simp⟩
  | d :: ds, _, _, h, r => by
    cases h with
    | cons h1 h2 =>
      cases r with
      | cons r1 r2 =>
        obtain ⟨as, q1, n1⟩ := Dq.reads I hm d _ _ h1 r1
        obtain ⟨bs, q2, n2⟩ := DqAll.readsN I hm ds _ _ h2 r2
        exact ⟨_, .cons q1 q2, fun z => (List.mem_append.mp z).elim n1 n2⟩
theorem DqKv.readsN (I : Inv X pins σ H s) (hm : ∃ mm, X.base.Ns sysModules mm) : ∀ (ds : List (PyData × PyData)) (kvs : List (Key × V)) (vs : List (Key × Value)) (es : List DictEntry), DqKv X.K H kvs ds → KV kvs vs → Pairs (mixKind X.prog X.w) es vs →
    ∃ as bs, ReadsAll s.heap (es.map (·.key)) (ds.map (·.1)) as ∧ ReadsAll s.heap (es.map (·.val)) (ds.map (·.2)) bs ∧ sysModules ∉ as ∧ sysModules ∉ bs
  | [], _, _, _, h, r, p => by
    cases h; cases r; cases p
    exact ⟨_, _, .nil, .nil, by simp, by simp⟩
  | d :: ds, _, _, _, h, r, p => by
    cases h with
    | @cons k v _ d _ h1 h2 =>
      cases r with
      | cons r1 r2 =>
        cases p with
        | @cons en _ _ _ p1 p2 p3 =>
          obtain ⟨as, q1, n1⟩ := Dq.reads I hm d _ _ h1 (p2 ▸ r1.2)
          obtain ⟨bs, cs, q2, q3, n2, n3⟩ := DqKv.readsN I hm ds _ _ _ h2 r2 p3
          have e1 : _ = _ := r1.1
          rw [← e1] at p1
          obtain ⟨zs, q4, n4⟩ : ∃ zs, Reads s.heap en.key (kD k) zs ∧ sysModules ∉ zs := by
            rcases keyIs_shape p1 with ⟨i, t, e2, e3⟩ | ⟨x, t, e2, e3⟩
            · subst e2
              exact ⟨[], by rw [e3]; exact Reads.int i t, by simp⟩
            · subst e2
              exact ⟨[], by rw [e3]; exact Reads.str x t, by simp⟩
          exact ⟨_, _, .cons q4 q2, .cons q1 q3, fun z => (List.mem_append.mp z).elim n4 n2, fun z => (List.mem_append.mp z).elim n1 n3⟩
end
end
/-- repr of data -/
theorem call_reprD (hgd : GdB X.A X.base) (hu : X.A.units + 64 < cLine) : CallR X (.builtin "repr") (fun xs H Q => ∃ (x : V) (dt : PyData), xs = [x] ∧ Dq X.K H x dt ∧ dt.showable = true ∧ dt.depth ≤ 60 ∧ dt.shown.length ≤ sizeLine ∧ Q (.str dt.shown) H) := by
  intro pins s σ H xs us Q I r h
  obtain ⟨x, dt, rfl, hD, h1, h3, h4, q⟩ := h
  obtain ⟨u, rfl, ru⟩ := vals1 r
  obtain ⟨as, hr, hn⟩ := Dq.reads I hgd.2 dt x u hD ru
  cases hD with
  | non =>
    cases (show u = Value.none from ru)
    exact PySem.P.repr_of_none ⟨.str _, H, I.tok _, ⟨_, rfl⟩, q⟩
  | bl b =>
    cases (show u = Value.bool b from ru)
    exact PySem.P.repr_of_bool ⟨.str _, H, I.tok _, ⟨_, rfl⟩, q⟩
  | int i =>
    obtain ⟨t, rfl⟩ := ru
    exact PySem.P.repr_of_int (of_decide_eq_true h1) ⟨.str _, H, I.tok _, ⟨_, rfl⟩, q⟩
  | str z =>
    obtain ⟨t, rfl⟩ := ru
    exact PySem.P.repr_of_str ⟨.str _, H, I.tok _, ⟨_, rfl⟩, q⟩ h4
  | lst _ _ =>
    cases ru
    exact repr_of_reads' hr h1 (fun _ => hn) hgd.1 (by omega) (fun _ _ e => e) (fun h' u tk hk => ⟨.str _, H, (I.kept (t' := tk) hk), ⟨_, rfl⟩, q⟩) h4
  | tup _ _ =>
    cases ru
    exact repr_of_reads' hr h1 (fun _ => hn) hgd.1 (by omega) (fun _ _ e => e) (fun h' u tk hk => ⟨.str _, H, (I.kept (t' := tk) hk), ⟨_, rfl⟩, q⟩) h4
  | dct _ _ =>
    cases ru
    exact repr_of_reads' hr h1 (fun _ => hn) hgd.1 (by omega) (fun _ _ e => e) (fun h' u tk hk => ⟨.str _, H, (I.kept (t' := tk) hk), ⟨_, rfl⟩, q⟩) h4
end
end
/-! ### the law is called: no guard is up -/
section
open PySem PySem.Spec PyProof.Rows L2
theorem law_callG {P : Program} {w : World} {K : PySem.W.Frag} {mg mb : Str → Option Value} {CX : CXT} {k : Nat} {fa a : Addr} {fd : FuncData} {x : Str} {sp : Sp} {s₁ : Shared} {vs : List Value} {ns : List Int}
    (KX : K.In s₁.heap) (hns : s₁.heap.Ns mainGlobals mg) (hb : s₁.heap.Ns builtinsNs mb) (hbb : ∀ x : Str, x ≠ "__name__" → mb x = bootBuiltins x) (hlim : s₁.heap.NoLimit) (hmods : ∃ mm, s₁.heap.Ns sysModules mm) (hg : s₁.gens = #[])
    (ha : s₁.heap.get? a = some { cls := .type "list", data := .seq vs.toArray }) (hi : IntsAre vs ns) (hl : ns.length ≤ sizeLine) (hr : Room k callerA)
    (F : ∀ base : Heap, K.In base → base.Ns mainGlobals mg → FnG P w K mg base CX k fa fd [x] sp) (hbind : ∀ (s : Shared) (u : Value), BindsTo s fd ⟨[u], []⟩ [(x, u)])
    (hsp : ∀ H : Hp, Only H → SqL K H a (ns.map V.int) → sp [.ref a] H (fun v _ => v = .bl true) fun _ _ _ => False)
    (hCX : ∀ H e s', CX [] H s₁ (fun _ _ _ => False) e s' → False) :
    codeAny (model P w) callerA (.call (.ref fa) ⟨[.ref a], []⟩) (fun r s' => r = .ok (.ret (.bool true)) ∧ OldK s₁.heap s'.heap ∧ s'.os = s₁.os ∧ AllBare s'.gens) s₁ := by
  have rv := vals_ints hi
  have lenV := hi.length
  -- from an abstract heap in which nothing but the script may be tracked
  have core : ∀ H : Hp, Only H → SqL K H a (ns.map V.int) → HOk P w H s₁.heap → (∀ b, H b ≠ none → b = a) → (H a ≠ none → K.lookup a = none) →
      codeAny (model P w) callerA (.call (.ref fa) ⟨[.ref a], []⟩) (fun r s' => r = .ok (.ret (.bool true)) ∧ OldK s₁.heap s'.heap ∧ s'.os = s₁.os ∧ AllBare s'.gens) s₁ := by
    intro H hO hS hok hA hK
    have base_of : ∀ {b : Addr} {o : Obj}, s₁.heap.get? b = some o → H b = none → (hidT s₁.heap H).get? b = some o := fun e n => hidT_get e n
    have noA : ∀ {b : Addr} {o : Obj} {es : Array DictEntry} {ep : Nat}, s₁.heap.get? b = some o → o.data = .dict es ep → H b = none := fun {b o es ep} e d => by
      cases q : H b with
      | none => rfl
      | some u =>
        have e' : b = a := hA b (by rw [q]; simp)
        subst e'
        rw [ha] at e; cases e
        have d' : Data.seq vs.toArray _ = Data.dict es ep := d
        cases d'
    have nsK : ∀ {b : Addr} {m : Str → Option Value}, s₁.heap.Ns b m → (hidT s₁.heap H).Ns b m := fun {b m} ⟨o, es, ep, e, d, r⟩ => ⟨o, es, ep, base_of e (noA e d), d, r⟩
    have hKb : K.In (hidT s₁.heap H) := fun b o e => base_of (KX b o e) (by
      cases q : H b with
      | none => rfl
      | some u =>
        have e' : b = a := hA b (by rw [q]; simp)
        subst e'
        rw [hK (by rw [q]; simp)] at e; cases e)
    have hM : Mod K mg (hidT s₁.heap H) := ⟨hKb, nsK hns, ⟨mb, nsK hb, hbb⟩, let ⟨mc, h1, h2⟩ := hlim; ⟨mc, nsK h1, h2⟩⟩
    have e0 : Env0 P w K mg (hidT s₁.heap H) callerA [] s₁ H := ⟨rfl, hM, fun b o e => of_hidT e, Nat.le_of_eq (hidT_size _ _), trivial, fun b hb => absurd (show b ∈ ([] : List Addr) from hb) (by simp), hok, .of_eq hg⟩
    refine codeAny_mono ((F _ hKb (nsK hns)).run callerA [] s₁ H ⟨[.ref a], []⟩ [.ref a] [.ref a] _ _ hr ⟨rfl, let ⟨mm, q⟩ := hmods; ⟨mm, nsK q⟩⟩ e0 (hbind s₁ (.ref a)) (.cons rfl .nil) (hsp H hO hS)) fun r s' h => ?_
    cases r with
    | error e => exact (hCX H e s' h).elim
    | ok fl =>
      cases fl with
      | next => exact False.elim h
      | brk => exact False.elim h
      | cont => exact False.elim h
      | ret u =>
        obtain ⟨v, H', os, bare, un, hok', r', q⟩ := h
        have q' : v = .bl true := q
        subst q'
        obtain rfl : u = Value.bool true := r'
        refine ⟨rfl, OldK.of_keep fun b o e => ?_, os, bare⟩
        cases q : H b with
        | none => exact un.keep b o e q (by intro z; exact absurd (show b ∈ ([] : List Addr) from z) (by simp)) (by simp)
        | some u =>
          rcases hO b with z | ⟨ob, xs, z⟩
          · rw [q] at z; cases z
          · have z2 := un.frzs b ob _ z
            obtain ⟨e1, _⟩ := hok b _ z
            obtain ⟨e2, _⟩ := hok' b _ z2
            rw [e] at e1; cases e1
            exact e2
  cases hk : K.lookup a with
  | some o =>
    -- the script is one of the module's own objects
    have e := KX a o hk
    rw [ha] at e
    cases e
    refine core (fun _ => none) (fun _ => .inl rfl) (.inr ⟨_, vs.toArray, _, hk, rfl, rfl, rfl, by rw [List.size_toArray, lenV]; exact hl, by simpa using rv⟩) (fun b u z => by have z' : (none : Option HO) = some u := z; cases z') (fun b z => absurd rfl z) fun z => absurd rfl z
  | none =>
    refine core (fun b => if b = a then some (.frz { cls := .type "list", data := .seq vs.toArray } (.lst (ns.map V.int))) else none) (fun b => ?_) (.inl (.inr ⟨{ cls := .type "list", data := .seq vs.toArray }, if_pos rfl⟩)) (fun b u z => ?_) (fun b z => ?_) fun _ => hk
    · by_cases hb : b = a
      · exact .inr ⟨_, _, if_pos hb⟩
      · exact .inl (if_neg hb)
    · by_cases hb : b = a
      · have z' := (if_pos hb).symm.trans z
        cases z'
        subst hb
        exact ⟨ha, by rw [List.length_map]; exact hl, vs, _, rv, ha⟩
      · have z' := (if_neg hb).symm.trans z
        cases z'
    · by_cases hb : b = a
      · exact hb
      · exact absurd (if_neg hb) z
theorem walk_ofBG {l : PySem.W.OpenLaw} {n k : Nat} {q : Program} {loose : List Str} {XP : (Str → Option Value) → Heap → Prop} {YP : World → Heap → Prop} {d : DefRec} {K : Params → PySem.W.Frag} {CX : World → CXT} {sp : World → Sp} {x : Str}
    (hn : l.most = some n) (hn2 : n ≤ sizeLine) (hdf : d.params.defaults = []) (hi : importsNone q = true) (hr : Room k callerA)
    (hY : ∀ (w : World) (h : Heap), YP w h → (K w.params).In h)
    (F : ∀ (w : World) (mg : Str → Option Value) (fa : Addr) (h : Heap), (K w.params).In h → h.Ns mainGlobals mg → mg d.name = some (.ref fa) →
      ∃ fd : FuncData, (∀ (s : Shared) (u : Value), BindsTo s fd ⟨[u], []⟩ [(x, u)]) ∧
        ∀ base : Heap, (K w.params).In base → base.Ns mainGlobals mg → FnG l.prog w (K w.params) mg base (CX w) k fa fd [x] (sp w))
    (hsp : ∀ (w : World) (H : Hp) (a : Addr) (ns : List Int), ns.length ≤ n → (∀ z ∈ ns, Builtin.Int.intBits z ≤ 1048576) → Only H → SqL (K w.params) H a (ns.map V.int) → sp w [.ref a] H (fun v _ => v = .bl true) fun _ _ _ => False)
    (hCX : ∀ (w : World) (H : Hp) (s : Shared) (e : Value) (s' : Shared), CX w [] H s (fun _ _ _ => False) e s' → False) :
    PySem.W.WalkO q loose XP YP l.row.toRowW d [] (fun f vs => PySem.call f vs) := by
  refine Att.attach_callB hn hdf fun w s₀ s₁ mg mb fa o pm cd doc a vs ns G Y ho hd hcd hmg hobj hints hlen hbits hg => ?_
  have KX := hY w _ Y
  obtain ⟨fd, hb, hF⟩ := F w mg fa _ KX G.T.g hmg
  exact law_callG KX G.T.g G.T.b G.T.builtins G.T.nolimit (let ⟨mm, q, _⟩ := (G.T.seer hi).mods; ⟨mm, q⟩) hg hobj hints (Nat.le_trans hlen hn2) hr hF hb (fun H hO hS => hsp w H a ns hlen hbits hO hS) fun H e s' => hCX w H s₁ e s'
end
/-! ### what is never reached -/
section
variable {X : Cx}
theorem ps_no {st : Stmt} : PS X st (fun _ _ _ => False) := ⟨fun _ _ _ _ _ _ h => h.elim⟩
theorem xfc {P : Program} {K : PySem.W.Frag} {C fI : Addr} {st : Stmt} {q : Str} {ps : List Str} {fs : List (Str × Sum Nat Str)} (T : ErrC P K C fI st q ps fs) : XfC K C := ⟨T.ga, T.gg, T.exC, T.hdC⟩
end
theorem for_nil {K : PySem.W.Frag} {a : Addr} {g : TG} {tb : TS} {D : Ends} {σ : L2.St} {H : Hp} (hl : SqL K H a []) (hd : D.nx σ H) :
    ∃ W : Nat → Nat → L2.St → Hp → Prop, (∃ m, W 0 m σ H) ∧ ∀ i m σ H, W i m σ H →
      ((Itl K a).stop i H ∧ D.nx σ H) ∨ ((Itl K a).go i H ∧ ∃ N : L2.St → Hp → Prop, (∀ σ' H', N σ' H' → ∃ m', m' < m ∧ W (i + 1) m' σ' H') ∧ ∀ x H', (Itl K a).yld i H x H' → g x σ H' fun σ2 H2 => tb { D with nx := N, ct := N, bk := D.nx } σ2 H2) :=
  for_list (xs := []) (fun _ σ' H' => σ' = σ ∧ H' = H) ⟨rfl, rfl⟩ (fun i σ' H' _ p => p.2 ▸ hl) (fun i x σ' H' e _ => by simp at e) (fun σ' H' p => by rw [p.1, p.2]; exact hd)
/-! ### rules within a comprehension: the text's K by name -/
section
variable {X : Cx} {K : PySem.W.Frag}
theorem pe_fldK {o : Expr} {f : Str} {pos : Pos} {ta : TE} (hK : X.K = K) (ho : PE X o ta) (hab : attributeBase o f X.env (eval o X.env) = eval o X.env) : PE X (.Attribute o f pos) (tFld K ta f) := hK ▸ pe_fld ho hab
theorem op_inK (hK : X.K = K) : OpR X (compareOp .In) (rIn K false) := hK ▸ op_in_seq
theorem op_notInK (hK : X.K = K) : OpR X (compareOp .NotIn) (rIn K true) := hK ▸ op_notIn_seq
theorem ix_listK (hK : X.K = K) : IxR X (rIxL K) := hK ▸ ix_list
theorem ix_tupK (hK : X.K = K) : IxR X (rIxT K) := hK ▸ ix_tup
theorem op_eqDK (hK : X.K = K) (hu : X.A.units + 64 < cLine) : OpR X (compareOp .Eq) (rEqD K) := hK ▸ op_eqD hu
theorem op_neDK (hK : X.K = K) (hu : X.A.units + 64 < cLine) : OpR X (compareOp .NotEq) (rNeD K) := hK ▸ op_neD hu
end
/-! ### the classes of errors, asked all at once -/
def kitAll (K : PySem.W.Frag) (l : List Addr) : Bool := (List.range l.length).all fun i => (List.range l.length).all fun j => match l[i]?, l[j]? with
  | some c, some d => decide (PySem.W.kitOne K (.ref c) (.ref d) = some (decide (i = j)))
  | _, _ => true
def kitBase (K : PySem.W.Frag) (b : Addr) (l : List Addr) : Bool := l.all fun c => decide (PySem.W.kitOne K (.ref c) (.ref b) = some true) && decide (PySem.W.kitOne K (.ref c) (.type "ValueError") = some true)
def exkAll (K : PySem.W.Frag) (l : List Addr) : Bool := l.all fun c => decide (PySem.W.findIn K (.ref c) "__class__" = some (some (.builtin "object.__class__"))) && decide (PySem.W.mroIn K c (.type "object") = some true)
theorem kitAll_at {K : PySem.W.Frag} {l : List Addr} (h : kitAll K l = true) {i j : Nat} {c d : Addr} (hi : l[i]? = some c) (hj : l[j]? = some d) : PySem.W.kitOne K (.ref c) (.ref d) = some (decide (i = j)) := by
  have h1 := List.all_eq_true.mp h i (List.mem_range.mpr (List.getElem?_eq_some_iff.mp hi).1)
  have h2 := List.all_eq_true.mp h1 j (List.mem_range.mpr (List.getElem?_eq_some_iff.mp hj).1)
  rw [hi, hj] at h2
  exact of_decide_eq_true h2
def gid {α : Type} (l : List α) : List α := l
def gsw {α : Type} : List α → List α
  | [x, y] => [y, x]
  | l => l
theorem gid_r {zs : List V} {ws : List Value} (h : Vals zs ws) : Vals (gid zs) (gid ws) := h
theorem gsw_r : ∀ {zs : List V} {ws : List Value}, Vals zs ws → Vals (gsw zs) (gsw ws)
  | _, _, .nil => .nil
  | _, _, .cons a .nil => .cons a .nil
  | _, _, .cons a (.cons b .nil) => .cons b (.cons a .nil)
  | _, _, .cons a (.cons b (.cons c r)) => .cons a (.cons b (.cons c r))
abbrev s_BadChangeU_initU : Stmt := inClass (top 11) 0
abbrev s_BadLibraryU_initU : Stmt := inClass (top 7) 0
abbrev s_BadModeU_initU : Stmt := inClass (top 3) 0
abbrev s_BadMoveU_initU : Stmt := inClass (top 13) 0
abbrev s_BadRecordsU_initU : Stmt := inClass (top 12) 0
abbrev s_BadWordU_initU : Stmt := inClass (top 2) 0
abbrev s_ClashU_initU : Stmt := inClass (top 9) 0
abbrev s_DoomedU_initU : Stmt := inClass (top 21) 0
abbrev s_EndlessU_initU : Stmt := inClass (top 8) 0
abbrev s_FailedU_initU : Stmt := inClass (top 26) 0
abbrev s_MissingU_initU : Stmt := inClass (top 22) 0
abbrev s_NoBlockU_initU : Stmt := inClass (top 4) 0
abbrev s_NoCallU_initU : Stmt := inClass (top 15) 0
abbrev s_NoFaceU_initU : Stmt := inClass (top 18) 0
abbrev s_NoFateU_initU : Stmt := inClass (top 19) 0
abbrev s_NoFunctionU_initU : Stmt := inClass (top 10) 0
abbrev s_NoRecordU_initU : Stmt := inClass (top 5) 0
abbrev s_NoRowU_initU : Stmt := inClass (top 17) 0
abbrev s_NotNowU_initU : Stmt := inClass (top 14) 0
abbrev s_PresentU_initU : Stmt := inClass (top 23) 0
abbrev s_RefusedU_initU : Stmt := inClass (top 24) 0
abbrev s_TooManyU_initU : Stmt := inClass (top 6) 0
abbrev s_UnknownU_initU : Stmt := inClass (top 16) 0
abbrev s_UnlikeU_initU : Stmt := inClass (top 20) 0
abbrev s_WaitsU_initU : Stmt := inClass (top 25) 0
abbrev s_law_pool : Stmt := top 28
theorem sc_law_pool : FnScope ["_law_script", "_law_at", "_law_cell", "_law_size", "_law_seed"] ["_law_script", "_law_at"] (defScope s_law_pool) := ⟨rfl, rfl, rfl, by decide +kernel, rfl, by decide +kernel, by decide +kernel⟩
abbrev s_law_draw : Stmt := top 29
theorem sc_law_draw : FnScope ["_law_pool_here", "_law_many", "_law_digit", "_law_count", "_law_mixed"] ["_law_pool_here", "_law_many"] (defScope s_law_draw) := ⟨rfl, rfl, rfl, by decide +kernel, rfl, by decide +kernel, by decide +kernel⟩
abbrev s_law_word : Stmt := top 30
theorem sc_law_word : FnScope ["_law_pool_here", "_law_letters", "_law_k"] ["_law_pool_here"] (defScope s_law_word) := ⟨rfl, rfl, rfl, by decide +kernel, rfl, by decide +kernel, by decide +kernel⟩
abbrev s_law_thing : Stmt := top 31
theorem sc_law_thing : FnScope ["_law_pool_here", "_law_word_here", "_law_things"] ["_law_pool_here"] (defScope s_law_thing) := ⟨rfl, rfl, rfl, by decide +kernel, rfl, by decide +kernel, by decide +kernel⟩
abbrev s_law_classes : Stmt := top 32
theorem sc_law_classes : FnScope ["_law_e", "_law_found"] ["_law_e"] (defScope s_law_classes) := ⟨rfl, rfl, rfl, by decide +kernel, rfl, by decide +kernel, by decide +kernel⟩
abbrev s_law_first : Stmt := top 33
theorem sc_law_first : FnScope ["_law_one", "_law_two", "_law_pairs"] ["_law_one", "_law_two"] (defScope s_law_first) := ⟨rfl, rfl, rfl, by decide +kernel, rfl, by decide +kernel, by decide +kernel⟩
abbrev s_law_second : Stmt := top 34
theorem sc_law_second : FnScope ["_law_one", "_law_two", "_law_pairs"] ["_law_one", "_law_two"] (defScope s_law_second) := ⟨rfl, rfl, rfl, by decide +kernel, rfl, by decide +kernel, by decide +kernel⟩
abbrev s_law_fields : Stmt := top 35
theorem sc_law_fields : FnScope ["_law_e", "_law_k"] ["_law_e", "_law_k"] (defScope s_law_fields) := ⟨rfl, rfl, rfl, by decide +kernel, rfl, by decide +kernel, by decide +kernel⟩
abbrev s_law : Stmt := top 36
theorem sc_law : FnScope ["_law_script", "_law_at", "_law_pool_here", "_law_one", "_law_two", "_law_pairs", "_law_k", "_law_e", "_law_due", "_law_words", "_law_j"] ["_law_script"] (defScope s_law) := ⟨rfl, rfl, rfl, by decide +kernel, rfl, by decide +kernel, by decide +kernel⟩
abbrev ef_BadChange : List (Str × Sum Nat Str) := [("index", .inl 0)]
theorem ec_BadChange {K : PySem.W.Frag} {C fI : Addr} {nm qn : Str} {N : Addr} {bs bm : List Value} {sn : List Str} {sub : List Value} {ab : Bool} {col : Option Bool} {dd : Option Addr} {k0 k1 k2 k3 k5 : Option Value}
    {oc : Value} {od : Option Addr} {doc pm : Value} {an : Option Addr} {cda cc : Addr} {ct : Value} {osl : Array (Option Value)} {ccl : Value} {cdd : Option Addr} {vs : Array Value} {ccs : Array (Option Value)} {tf : Tok} {cl : Value} {cld : Option Addr} {csl : Array (Option Value)}
    (h1 : K.lookup C = some (excClassObj nm qn C N bs bm true sn sub ab col dd k0 k1 k2 k3 k5 "ValueError.__new__")) (h2 : PySem.HandSPX.refsVE bm = true) (h3 : PySem.W.findIn K (.ref C) "__setattr__" = some (some (.builtin "object.__setattr__")))
    (h4 : PySem.W.findIn K (.ref C) "__getattribute__" = some (some (.builtin "BaseException.__getattribute__"))) (h5 : PySem.W.findIn K (.ref C) "__getattr__" = some none) (h6 : PySem.W.findIn K (.ref C) "__init__" = some (some (.ref fI)))
    (h7 : PySem.W.typeIn K (.ref fI) = some (.type "function")) (h8 : PySem.W.keepIn K (.ref C) = true) (h9 : PySem.W.subIn K (.ref C) (.type "BaseException") = some true) (h10 : PySem.W.subIn K (.ref C) (.type "ValueError") = some true)
    (h11 : PySem.W.typeIn K (.ref C) = some (.type "type")) (h12 : PySem.W.hasDictIn K C = true) (h13 : PySem.W.ks_superIn K C C "__init__" = some (some (.builtin "ValueError.__init__"))) (h14 : PySem.W.mroIn K C (.ref C) = some true) (h15 : PySem.W.exmOne K (.ref C) (.ref C) = some true)
    (h16 : PySem.W.nsIn K cStatics "thirdparty.any" = some none) (h17 : K.lookup fI = some ⟨oc, od, .func (PySem.W.ksFn "__init__" "BadChange.__init__" (defArgs s_BadChangeU_initU) (defBody s_BadChangeU_initU) (defScope s_BadChangeU_initU) .none .none doc pm an (.ref cda) ct cc), osl⟩) (h18 : PySem.W.codeIn K (.ref cda) "BadChange.__init__" = true)
    (h19 : K.lookup cda = some ⟨ccl, cdd, .fields vs, ccs⟩) (h20 : vs[2]? = some (.str P.main.file tf)) (h21 : K.lookup cc = some ⟨cl, cld, .cell (some (.ref C)), csl⟩) (nf0 : PySem.W.findIn K (.ref C) "index" = some none) : ErrC P K C fI s_BadChangeU_initU "BadChange.__init__" ["index"] ef_BadChange := by
  refine ⟨⟨nm, qn, N, bs, bm, sn, sub, ab, col, dd, k0, k1, k2, k3, k5, h1, h2⟩, h3, h4, h5, ?_, h6, h7, h8, h9, h10, h11, h12, h13, h14, h15, h16, ⟨oc, od, doc, pm, an, cda, cc, ct, osl, ccl, cdd, vs, ccs, tf, cl, cld, csl, h17, h18, h19, h20, h21⟩, ⟨_, rfl, rfl⟩, (fun _ _ _ _ _ _ us hl => match us, hl with | [_, _], _ => rfl),
    ⟨_, _, _, _, _, _, _, _, _, rfl, (.par (i := 0) rfl .nil), fun L cda cc => ⟨_, rfl⟩⟩, rfl, rfl, rfl, by decide +kernel, by decide +kernel, rfl, rfl, by decide +kernel, by decide +kernel⟩
  intro p hp
  rcases List.mem_cons.mp hp with rfl | hp
  · exact nf0
  · exact absurd hp (by simp)
abbrev ef_BadLibrary : List (Str × Sum Nat Str) := [("line", .inl 0)]
theorem ec_BadLibrary {K : PySem.W.Frag} {C fI : Addr} {nm qn : Str} {N : Addr} {bs bm : List Value} {sn : List Str} {sub : List Value} {ab : Bool} {col : Option Bool} {dd : Option Addr} {k0 k1 k2 k3 k5 : Option Value}
    {oc : Value} {od : Option Addr} {doc pm : Value} {an : Option Addr} {cda cc : Addr} {ct : Value} {osl : Array (Option Value)} {ccl : Value} {cdd : Option Addr} {vs : Array Value} {ccs : Array (Option Value)} {tf : Tok} {cl : Value} {cld : Option Addr} {csl : Array (Option Value)}
    (h1 : K.lookup C = some (excClassObj nm qn C N bs bm true sn sub ab col dd k0 k1 k2 k3 k5 "ValueError.__new__")) (h2 : PySem.HandSPX.refsVE bm = true) (h3 : PySem.W.findIn K (.ref C) "__setattr__" = some (some (.builtin "object.__setattr__")))
    (h4 : PySem.W.findIn K (.ref C) "__getattribute__" = some (some (.builtin "BaseException.__getattribute__"))) (h5 : PySem.W.findIn K (.ref C) "__getattr__" = some none) (h6 : PySem.W.findIn K (.ref C) "__init__" = some (some (.ref fI)))
    (h7 : PySem.W.typeIn K (.ref fI) = some (.type "function")) (h8 : PySem.W.keepIn K (.ref C) = true) (h9 : PySem.W.subIn K (.ref C) (.type "BaseException") = some true) (h10 : PySem.W.subIn K (.ref C) (.type "ValueError") = some true)
    (h11 : PySem.W.typeIn K (.ref C) = some (.type "type")) (h12 : PySem.W.hasDictIn K C = true) (h13 : PySem.W.ks_superIn K C C "__init__" = some (some (.builtin "ValueError.__init__"))) (h14 : PySem.W.mroIn K C (.ref C) = some true) (h15 : PySem.W.exmOne K (.ref C) (.ref C) = some true)
    (h16 : PySem.W.nsIn K cStatics "thirdparty.any" = some none) (h17 : K.lookup fI = some ⟨oc, od, .func (PySem.W.ksFn "__init__" "BadLibrary.__init__" (defArgs s_BadLibraryU_initU) (defBody s_BadLibraryU_initU) (defScope s_BadLibraryU_initU) .none .none doc pm an (.ref cda) ct cc), osl⟩) (h18 : PySem.W.codeIn K (.ref cda) "BadLibrary.__init__" = true)
    (h19 : K.lookup cda = some ⟨ccl, cdd, .fields vs, ccs⟩) (h20 : vs[2]? = some (.str P.main.file tf)) (h21 : K.lookup cc = some ⟨cl, cld, .cell (some (.ref C)), csl⟩) (nf0 : PySem.W.findIn K (.ref C) "line" = some none) : ErrC P K C fI s_BadLibraryU_initU "BadLibrary.__init__" ["line"] ef_BadLibrary := by
  refine ⟨⟨nm, qn, N, bs, bm, sn, sub, ab, col, dd, k0, k1, k2, k3, k5, h1, h2⟩, h3, h4, h5, ?_, h6, h7, h8, h9, h10, h11, h12, h13, h14, h15, h16, ⟨oc, od, doc, pm, an, cda, cc, ct, osl, ccl, cdd, vs, ccs, tf, cl, cld, csl, h17, h18, h19, h20, h21⟩, ⟨_, rfl, rfl⟩, (fun _ _ _ _ _ _ us hl => match us, hl with | [_, _], _ => rfl),
    ⟨_, _, _, _, _, _, _, _, _, rfl, (.par (i := 0) rfl .nil), fun L cda cc => ⟨_, rfl⟩⟩, rfl, rfl, rfl, by decide +kernel, by decide +kernel, rfl, rfl, by decide +kernel, by decide +kernel⟩
  intro p hp
  rcases List.mem_cons.mp hp with rfl | hp
  · exact nf0
  · exact absurd hp (by simp)
abbrev ef_BadMode : List (Str × Sum Nat Str) := [("mode", .inl 0)]
theorem ec_BadMode {K : PySem.W.Frag} {C fI : Addr} {nm qn : Str} {N : Addr} {bs bm : List Value} {sn : List Str} {sub : List Value} {ab : Bool} {col : Option Bool} {dd : Option Addr} {k0 k1 k2 k3 k5 : Option Value}
    {oc : Value} {od : Option Addr} {doc pm : Value} {an : Option Addr} {cda cc : Addr} {ct : Value} {osl : Array (Option Value)} {ccl : Value} {cdd : Option Addr} {vs : Array Value} {ccs : Array (Option Value)} {tf : Tok} {cl : Value} {cld : Option Addr} {csl : Array (Option Value)}
    (h1 : K.lookup C = some (excClassObj nm qn C N bs bm true sn sub ab col dd k0 k1 k2 k3 k5 "ValueError.__new__")) (h2 : PySem.HandSPX.refsVE bm = true) (h3 : PySem.W.findIn K (.ref C) "__setattr__" = some (some (.builtin "object.__setattr__")))
    (h4 : PySem.W.findIn K (.ref C) "__getattribute__" = some (some (.builtin "BaseException.__getattribute__"))) (h5 : PySem.W.findIn K (.ref C) "__getattr__" = some none) (h6 : PySem.W.findIn K (.ref C) "__init__" = some (some (.ref fI)))
    (h7 : PySem.W.typeIn K (.ref fI) = some (.type "function")) (h8 : PySem.W.keepIn K (.ref C) = true) (h9 : PySem.W.subIn K (.ref C) (.type "BaseException") = some true) (h10 : PySem.W.subIn K (.ref C) (.type "ValueError") = some true)
    (h11 : PySem.W.typeIn K (.ref C) = some (.type "type")) (h12 : PySem.W.hasDictIn K C = true) (h13 : PySem.W.ks_superIn K C C "__init__" = some (some (.builtin "ValueError.__init__"))) (h14 : PySem.W.mroIn K C (.ref C) = some true) (h15 : PySem.W.exmOne K (.ref C) (.ref C) = some true)
    (h16 : PySem.W.nsIn K cStatics "thirdparty.any" = some none) (h17 : K.lookup fI = some ⟨oc, od, .func (PySem.W.ksFn "__init__" "BadMode.__init__" (defArgs s_BadModeU_initU) (defBody s_BadModeU_initU) (defScope s_BadModeU_initU) .none .none doc pm an (.ref cda) ct cc), osl⟩) (h18 : PySem.W.codeIn K (.ref cda) "BadMode.__init__" = true)
    (h19 : K.lookup cda = some ⟨ccl, cdd, .fields vs, ccs⟩) (h20 : vs[2]? = some (.str P.main.file tf)) (h21 : K.lookup cc = some ⟨cl, cld, .cell (some (.ref C)), csl⟩) (nf0 : PySem.W.findIn K (.ref C) "mode" = some none) : ErrC P K C fI s_BadModeU_initU "BadMode.__init__" ["mode"] ef_BadMode := by
  refine ⟨⟨nm, qn, N, bs, bm, sn, sub, ab, col, dd, k0, k1, k2, k3, k5, h1, h2⟩, h3, h4, h5, ?_, h6, h7, h8, h9, h10, h11, h12, h13, h14, h15, h16, ⟨oc, od, doc, pm, an, cda, cc, ct, osl, ccl, cdd, vs, ccs, tf, cl, cld, csl, h17, h18, h19, h20, h21⟩, ⟨_, rfl, rfl⟩, (fun _ _ _ _ _ _ us hl => match us, hl with | [_, _], _ => rfl),
    ⟨_, _, _, _, _, _, _, _, _, rfl, (.par (i := 0) rfl .nil), fun L cda cc => ⟨_, rfl⟩⟩, rfl, rfl, rfl, by decide +kernel, by decide +kernel, rfl, rfl, by decide +kernel, by decide +kernel⟩
  intro p hp
  rcases List.mem_cons.mp hp with rfl | hp
  · exact nf0
  · exact absurd hp (by simp)
abbrev ef_BadMove : List (Str × Sum Nat Str) := [("thing", .inl 0)]
theorem ec_BadMove {K : PySem.W.Frag} {C fI : Addr} {nm qn : Str} {N : Addr} {bs bm : List Value} {sn : List Str} {sub : List Value} {ab : Bool} {col : Option Bool} {dd : Option Addr} {k0 k1 k2 k3 k5 : Option Value}
    {oc : Value} {od : Option Addr} {doc pm : Value} {an : Option Addr} {cda cc : Addr} {ct : Value} {osl : Array (Option Value)} {ccl : Value} {cdd : Option Addr} {vs : Array Value} {ccs : Array (Option Value)} {tf : Tok} {cl : Value} {cld : Option Addr} {csl : Array (Option Value)}
    (h1 : K.lookup C = some (excClassObj nm qn C N bs bm true sn sub ab col dd k0 k1 k2 k3 k5 "ValueError.__new__")) (h2 : PySem.HandSPX.refsVE bm = true) (h3 : PySem.W.findIn K (.ref C) "__setattr__" = some (some (.builtin "object.__setattr__")))
    (h4 : PySem.W.findIn K (.ref C) "__getattribute__" = some (some (.builtin "BaseException.__getattribute__"))) (h5 : PySem.W.findIn K (.ref C) "__getattr__" = some none) (h6 : PySem.W.findIn K (.ref C) "__init__" = some (some (.ref fI)))
    (h7 : PySem.W.typeIn K (.ref fI) = some (.type "function")) (h8 : PySem.W.keepIn K (.ref C) = true) (h9 : PySem.W.subIn K (.ref C) (.type "BaseException") = some true) (h10 : PySem.W.subIn K (.ref C) (.type "ValueError") = some true)
    (h11 : PySem.W.typeIn K (.ref C) = some (.type "type")) (h12 : PySem.W.hasDictIn K C = true) (h13 : PySem.W.ks_superIn K C C "__init__" = some (some (.builtin "ValueError.__init__"))) (h14 : PySem.W.mroIn K C (.ref C) = some true) (h15 : PySem.W.exmOne K (.ref C) (.ref C) = some true)
    (h16 : PySem.W.nsIn K cStatics "thirdparty.any" = some none) (h17 : K.lookup fI = some ⟨oc, od, .func (PySem.W.ksFn "__init__" "BadMove.__init__" (defArgs s_BadMoveU_initU) (defBody s_BadMoveU_initU) (defScope s_BadMoveU_initU) .none .none doc pm an (.ref cda) ct cc), osl⟩) (h18 : PySem.W.codeIn K (.ref cda) "BadMove.__init__" = true)
    (h19 : K.lookup cda = some ⟨ccl, cdd, .fields vs, ccs⟩) (h20 : vs[2]? = some (.str P.main.file tf)) (h21 : K.lookup cc = some ⟨cl, cld, .cell (some (.ref C)), csl⟩) (nf0 : PySem.W.findIn K (.ref C) "thing" = some none) : ErrC P K C fI s_BadMoveU_initU "BadMove.__init__" ["thing"] ef_BadMove := by
  refine ⟨⟨nm, qn, N, bs, bm, sn, sub, ab, col, dd, k0, k1, k2, k3, k5, h1, h2⟩, h3, h4, h5, ?_, h6, h7, h8, h9, h10, h11, h12, h13, h14, h15, h16, ⟨oc, od, doc, pm, an, cda, cc, ct, osl, ccl, cdd, vs, ccs, tf, cl, cld, csl, h17, h18, h19, h20, h21⟩, ⟨_, rfl, rfl⟩, (fun _ _ _ _ _ _ us hl => match us, hl with | [_, _], _ => rfl),
    ⟨_, _, _, _, _, _, _, _, _, rfl, (.par (i := 0) rfl .nil), fun L cda cc => ⟨_, rfl⟩⟩, rfl, rfl, rfl, by decide +kernel, by decide +kernel, rfl, rfl, by decide +kernel, by decide +kernel⟩
  intro p hp
  rcases List.mem_cons.mp hp with rfl | hp
  · exact nf0
  · exact absurd hp (by simp)
abbrev ef_BadRecords : List (Str × Sum Nat Str) := [("record", .inl 0)]
theorem ec_BadRecords {K : PySem.W.Frag} {C fI : Addr} {nm qn : Str} {N : Addr} {bs bm : List Value} {sn : List Str} {sub : List Value} {ab : Bool} {col : Option Bool} {dd : Option Addr} {k0 k1 k2 k3 k5 : Option Value}
    {oc : Value} {od : Option Addr} {doc pm : Value} {an : Option Addr} {cda cc : Addr} {ct : Value} {osl : Array (Option Value)} {ccl : Value} {cdd : Option Addr} {vs : Array Value} {ccs : Array (Option Value)} {tf : Tok} {cl : Value} {cld : Option Addr} {csl : Array (Option Value)}
    (h1 : K.lookup C = some (excClassObj nm qn C N bs bm true sn sub ab col dd k0 k1 k2 k3 k5 "ValueError.__new__")) (h2 : PySem.HandSPX.refsVE bm = true) (h3 : PySem.W.findIn K (.ref C) "__setattr__" = some (some (.builtin "object.__setattr__")))
    (h4 : PySem.W.findIn K (.ref C) "__getattribute__" = some (some (.builtin "BaseException.__getattribute__"))) (h5 : PySem.W.findIn K (.ref C) "__getattr__" = some none) (h6 : PySem.W.findIn K (.ref C) "__init__" = some (some (.ref fI)))
    (h7 : PySem.W.typeIn K (.ref fI) = some (.type "function")) (h8 : PySem.W.keepIn K (.ref C) = true) (h9 : PySem.W.subIn K (.ref C) (.type "BaseException") = some true) (h10 : PySem.W.subIn K (.ref C) (.type "ValueError") = some true)
    (h11 : PySem.W.typeIn K (.ref C) = some (.type "type")) (h12 : PySem.W.hasDictIn K C = true) (h13 : PySem.W.ks_superIn K C C "__init__" = some (some (.builtin "ValueError.__init__"))) (h14 : PySem.W.mroIn K C (.ref C) = some true) (h15 : PySem.W.exmOne K (.ref C) (.ref C) = some true)
    (h16 : PySem.W.nsIn K cStatics "thirdparty.any" = some none) (h17 : K.lookup fI = some ⟨oc, od, .func (PySem.W.ksFn "__init__" "BadRecords.__init__" (defArgs s_BadRecordsU_initU) (defBody s_BadRecordsU_initU) (defScope s_BadRecordsU_initU) .none .none doc pm an (.ref cda) ct cc), osl⟩) (h18 : PySem.W.codeIn K (.ref cda) "BadRecords.__init__" = true)
    (h19 : K.lookup cda = some ⟨ccl, cdd, .fields vs, ccs⟩) (h20 : vs[2]? = some (.str P.main.file tf)) (h21 : K.lookup cc = some ⟨cl, cld, .cell (some (.ref C)), csl⟩) (nf0 : PySem.W.findIn K (.ref C) "record" = some none) : ErrC P K C fI s_BadRecordsU_initU "BadRecords.__init__" ["record"] ef_BadRecords := by
  refine ⟨⟨nm, qn, N, bs, bm, sn, sub, ab, col, dd, k0, k1, k2, k3, k5, h1, h2⟩, h3, h4, h5, ?_, h6, h7, h8, h9, h10, h11, h12, h13, h14, h15, h16, ⟨oc, od, doc, pm, an, cda, cc, ct, osl, ccl, cdd, vs, ccs, tf, cl, cld, csl, h17, h18, h19, h20, h21⟩, ⟨_, rfl, rfl⟩, (fun _ _ _ _ _ _ us hl => match us, hl with | [_, _], _ => rfl),
    ⟨_, _, _, _, _, _, _, _, _, rfl, (.par (i := 0) rfl .nil), fun L cda cc => ⟨_, rfl⟩⟩, rfl, rfl, rfl, by decide +kernel, by decide +kernel, rfl, rfl, by decide +kernel, by decide +kernel⟩
  intro p hp
  rcases List.mem_cons.mp hp with rfl | hp
  · exact nf0
  · exact absurd hp (by simp)
abbrev ef_BadWord : List (Str × Sum Nat Str) := [("word", .inl 0)]
theorem ec_BadWord {K : PySem.W.Frag} {C fI : Addr} {nm qn : Str} {N : Addr} {bs bm : List Value} {sn : List Str} {sub : List Value} {ab : Bool} {col : Option Bool} {dd : Option Addr} {k0 k1 k2 k3 k5 : Option Value}
    {oc : Value} {od : Option Addr} {doc pm : Value} {an : Option Addr} {cda cc : Addr} {ct : Value} {osl : Array (Option Value)} {ccl : Value} {cdd : Option Addr} {vs : Array Value} {ccs : Array (Option Value)} {tf : Tok} {cl : Value} {cld : Option Addr} {csl : Array (Option Value)}
    (h1 : K.lookup C = some (excClassObj nm qn C N bs bm true sn sub ab col dd k0 k1 k2 k3 k5 "ValueError.__new__")) (h2 : PySem.HandSPX.refsVE bm = true) (h3 : PySem.W.findIn K (.ref C) "__setattr__" = some (some (.builtin "object.__setattr__")))
    (h4 : PySem.W.findIn K (.ref C) "__getattribute__" = some (some (.builtin "BaseException.__getattribute__"))) (h5 : PySem.W.findIn K (.ref C) "__getattr__" = some none) (h6 : PySem.W.findIn K (.ref C) "__init__" = some (some (.ref fI)))
    (h7 : PySem.W.typeIn K (.ref fI) = some (.type "function")) (h8 : PySem.W.keepIn K (.ref C) = true) (h9 : PySem.W.subIn K (.ref C) (.type "BaseException") = some true) (h10 : PySem.W.subIn K (.ref C) (.type "ValueError") = some true)
    (h11 : PySem.W.typeIn K (.ref C) = some (.type "type")) (h12 : PySem.W.hasDictIn K C = true) (h13 : PySem.W.ks_superIn K C C "__init__" = some (some (.builtin "ValueError.__init__"))) (h14 : PySem.W.mroIn K C (.ref C) = some true) (h15 : PySem.W.exmOne K (.ref C) (.ref C) = some true)
    (h16 : PySem.W.nsIn K cStatics "thirdparty.any" = some none) (h17 : K.lookup fI = some ⟨oc, od, .func (PySem.W.ksFn "__init__" "BadWord.__init__" (defArgs s_BadWordU_initU) (defBody s_BadWordU_initU) (defScope s_BadWordU_initU) .none .none doc pm an (.ref cda) ct cc), osl⟩) (h18 : PySem.W.codeIn K (.ref cda) "BadWord.__init__" = true)
    (h19 : K.lookup cda = some ⟨ccl, cdd, .fields vs, ccs⟩) (h20 : vs[2]? = some (.str P.main.file tf)) (h21 : K.lookup cc = some ⟨cl, cld, .cell (some (.ref C)), csl⟩) (nf0 : PySem.W.findIn K (.ref C) "word" = some none) : ErrC P K C fI s_BadWordU_initU "BadWord.__init__" ["word"] ef_BadWord := by
  refine ⟨⟨nm, qn, N, bs, bm, sn, sub, ab, col, dd, k0, k1, k2, k3, k5, h1, h2⟩, h3, h4, h5, ?_, h6, h7, h8, h9, h10, h11, h12, h13, h14, h15, h16, ⟨oc, od, doc, pm, an, cda, cc, ct, osl, ccl, cdd, vs, ccs, tf, cl, cld, csl, h17, h18, h19, h20, h21⟩, ⟨_, rfl, rfl⟩, (fun _ _ _ _ _ _ us hl => match us, hl with | [_, _], _ => rfl),
    ⟨_, _, _, _, _, _, _, _, _, rfl, (.par (i := 0) rfl .nil), fun L cda cc => ⟨_, rfl⟩⟩, rfl, rfl, rfl, by decide +kernel, by decide +kernel, rfl, rfl, by decide +kernel, by decide +kernel⟩
  intro p hp
  rcases List.mem_cons.mp hp with rfl | hp
  · exact nf0
  · exact absurd hp (by simp)
abbrev ef_Clash : List (Str × Sum Nat Str) := [("name", .inl 0)]
theorem ec_Clash {K : PySem.W.Frag} {C fI : Addr} {nm qn : Str} {N : Addr} {bs bm : List Value} {sn : List Str} {sub : List Value} {ab : Bool} {col : Option Bool} {dd : Option Addr} {k0 k1 k2 k3 k5 : Option Value}
    {oc : Value} {od : Option Addr} {doc pm : Value} {an : Option Addr} {cda cc : Addr} {ct : Value} {osl : Array (Option Value)} {ccl : Value} {cdd : Option Addr} {vs : Array Value} {ccs : Array (Option Value)} {tf : Tok} {cl : Value} {cld : Option Addr} {csl : Array (Option Value)}
    (h1 : K.lookup C = some (excClassObj nm qn C N bs bm true sn sub ab col dd k0 k1 k2 k3 k5 "ValueError.__new__")) (h2 : PySem.HandSPX.refsVE bm = true) (h3 : PySem.W.findIn K (.ref C) "__setattr__" = some (some (.builtin "object.__setattr__")))
    (h4 : PySem.W.findIn K (.ref C) "__getattribute__" = some (some (.builtin "BaseException.__getattribute__"))) (h5 : PySem.W.findIn K (.ref C) "__getattr__" = some none) (h6 : PySem.W.findIn K (.ref C) "__init__" = some (some (.ref fI)))
    (h7 : PySem.W.typeIn K (.ref fI) = some (.type "function")) (h8 : PySem.W.keepIn K (.ref C) = true) (h9 : PySem.W.subIn K (.ref C) (.type "BaseException") = some true) (h10 : PySem.W.subIn K (.ref C) (.type "ValueError") = some true)
    (h11 : PySem.W.typeIn K (.ref C) = some (.type "type")) (h12 : PySem.W.hasDictIn K C = true) (h13 : PySem.W.ks_superIn K C C "__init__" = some (some (.builtin "ValueError.__init__"))) (h14 : PySem.W.mroIn K C (.ref C) = some true) (h15 : PySem.W.exmOne K (.ref C) (.ref C) = some true)
    (h16 : PySem.W.nsIn K cStatics "thirdparty.any" = some none) (h17 : K.lookup fI = some ⟨oc, od, .func (PySem.W.ksFn "__init__" "Clash.__init__" (defArgs s_ClashU_initU) (defBody s_ClashU_initU) (defScope s_ClashU_initU) .none .none doc pm an (.ref cda) ct cc), osl⟩) (h18 : PySem.W.codeIn K (.ref cda) "Clash.__init__" = true)
    (h19 : K.lookup cda = some ⟨ccl, cdd, .fields vs, ccs⟩) (h20 : vs[2]? = some (.str P.main.file tf)) (h21 : K.lookup cc = some ⟨cl, cld, .cell (some (.ref C)), csl⟩) (nf0 : PySem.W.findIn K (.ref C) "name" = some none) : ErrC P K C fI s_ClashU_initU "Clash.__init__" ["name"] ef_Clash := by
  refine ⟨⟨nm, qn, N, bs, bm, sn, sub, ab, col, dd, k0, k1, k2, k3, k5, h1, h2⟩, h3, h4, h5, ?_, h6, h7, h8, h9, h10, h11, h12, h13, h14, h15, h16, ⟨oc, od, doc, pm, an, cda, cc, ct, osl, ccl, cdd, vs, ccs, tf, cl, cld, csl, h17, h18, h19, h20, h21⟩, ⟨_, rfl, rfl⟩, (fun _ _ _ _ _ _ us hl => match us, hl with | [_, _], _ => rfl),
    ⟨_, _, _, _, _, _, _, _, _, rfl, (.par (i := 0) rfl .nil), fun L cda cc => ⟨_, rfl⟩⟩, rfl, rfl, rfl, by decide +kernel, by decide +kernel, rfl, rfl, by decide +kernel, by decide +kernel⟩
  intro p hp
  rcases List.mem_cons.mp hp with rfl | hp
  · exact nf0
  · exact absurd hp (by simp)
abbrev ef_Doomed : List (Str × Sum Nat Str) := [("word", .inr "doomed"), ("first", .inl 0)]
theorem ec_Doomed {K : PySem.W.Frag} {C fI : Addr} {nm qn : Str} {N : Addr} {bs bm : List Value} {sn : List Str} {sub : List Value} {ab : Bool} {col : Option Bool} {dd : Option Addr} {k0 k1 k2 k3 k5 : Option Value}
    {oc : Value} {od : Option Addr} {doc pm : Value} {an : Option Addr} {cda cc : Addr} {ct : Value} {osl : Array (Option Value)} {ccl : Value} {cdd : Option Addr} {vs : Array Value} {ccs : Array (Option Value)} {tf : Tok} {cl : Value} {cld : Option Addr} {csl : Array (Option Value)}
    (h1 : K.lookup C = some (excClassObj nm qn C N bs bm true sn sub ab col dd k0 k1 k2 k3 k5 "ValueError.__new__")) (h2 : PySem.HandSPX.refsVE bm = true) (h3 : PySem.W.findIn K (.ref C) "__setattr__" = some (some (.builtin "object.__setattr__")))
    (h4 : PySem.W.findIn K (.ref C) "__getattribute__" = some (some (.builtin "BaseException.__getattribute__"))) (h5 : PySem.W.findIn K (.ref C) "__getattr__" = some none) (h6 : PySem.W.findIn K (.ref C) "__init__" = some (some (.ref fI)))
    (h7 : PySem.W.typeIn K (.ref fI) = some (.type "function")) (h8 : PySem.W.keepIn K (.ref C) = true) (h9 : PySem.W.subIn K (.ref C) (.type "BaseException") = some true) (h10 : PySem.W.subIn K (.ref C) (.type "ValueError") = some true)
    (h11 : PySem.W.typeIn K (.ref C) = some (.type "type")) (h12 : PySem.W.hasDictIn K C = true) (h13 : PySem.W.ks_superIn K C C "__init__" = some (some (.builtin "ValueError.__init__"))) (h14 : PySem.W.mroIn K C (.ref C) = some true) (h15 : PySem.W.exmOne K (.ref C) (.ref C) = some true)
    (h16 : PySem.W.nsIn K cStatics "thirdparty.any" = some none) (h17 : K.lookup fI = some ⟨oc, od, .func (PySem.W.ksFn "__init__" "Doomed.__init__" (defArgs s_DoomedU_initU) (defBody s_DoomedU_initU) (defScope s_DoomedU_initU) .none .none doc pm an (.ref cda) ct cc), osl⟩) (h18 : PySem.W.codeIn K (.ref cda) "Doomed.__init__" = true)
    (h19 : K.lookup cda = some ⟨ccl, cdd, .fields vs, ccs⟩) (h20 : vs[2]? = some (.str P.main.file tf)) (h21 : K.lookup cc = some ⟨cl, cld, .cell (some (.ref C)), csl⟩) (nf0 : PySem.W.findIn K (.ref C) "word" = some none) (nf1 : PySem.W.findIn K (.ref C) "first" = some none) : ErrC P K C fI s_DoomedU_initU "Doomed.__init__" ["first"] ef_Doomed := by
  refine ⟨⟨nm, qn, N, bs, bm, sn, sub, ab, col, dd, k0, k1, k2, k3, k5, h1, h2⟩, h3, h4, h5, ?_, h6, h7, h8, h9, h10, h11, h12, h13, h14, h15, h16, ⟨oc, od, doc, pm, an, cda, cc, ct, osl, ccl, cdd, vs, ccs, tf, cl, cld, csl, h17, h18, h19, h20, h21⟩, ⟨_, rfl, rfl⟩, (fun _ _ _ _ _ _ us hl => match us, hl with | [_, _], _ => rfl),
    ⟨_, _, _, _, _, _, _, _, _, rfl, (.con (.par (i := 0) rfl .nil)), fun L cda cc => ⟨_, rfl⟩⟩, rfl, rfl, rfl, by decide +kernel, by decide +kernel, rfl, rfl, by decide +kernel, by decide +kernel⟩
  intro p hp
  rcases List.mem_cons.mp hp with rfl | hp
  · exact nf0
  rcases List.mem_cons.mp hp with rfl | hp
  · exact nf1
  · exact absurd hp (by simp)
abbrev ef_Endless : List (Str × Sum Nat Str) := [("name", .inl 0)]
theorem ec_Endless {K : PySem.W.Frag} {C fI : Addr} {nm qn : Str} {N : Addr} {bs bm : List Value} {sn : List Str} {sub : List Value} {ab : Bool} {col : Option Bool} {dd : Option Addr} {k0 k1 k2 k3 k5 : Option Value}
    {oc : Value} {od : Option Addr} {doc pm : Value} {an : Option Addr} {cda cc : Addr} {ct : Value} {osl : Array (Option Value)} {ccl : Value} {cdd : Option Addr} {vs : Array Value} {ccs : Array (Option Value)} {tf : Tok} {cl : Value} {cld : Option Addr} {csl : Array (Option Value)}
    (h1 : K.lookup C = some (excClassObj nm qn C N bs bm true sn sub ab col dd k0 k1 k2 k3 k5 "ValueError.__new__")) (h2 : PySem.HandSPX.refsVE bm = true) (h3 : PySem.W.findIn K (.ref C) "__setattr__" = some (some (.builtin "object.__setattr__")))
    (h4 : PySem.W.findIn K (.ref C) "__getattribute__" = some (some (.builtin "BaseException.__getattribute__"))) (h5 : PySem.W.findIn K (.ref C) "__getattr__" = some none) (h6 : PySem.W.findIn K (.ref C) "__init__" = some (some (.ref fI)))
    (h7 : PySem.W.typeIn K (.ref fI) = some (.type "function")) (h8 : PySem.W.keepIn K (.ref C) = true) (h9 : PySem.W.subIn K (.ref C) (.type "BaseException") = some true) (h10 : PySem.W.subIn K (.ref C) (.type "ValueError") = some true)
    (h11 : PySem.W.typeIn K (.ref C) = some (.type "type")) (h12 : PySem.W.hasDictIn K C = true) (h13 : PySem.W.ks_superIn K C C "__init__" = some (some (.builtin "ValueError.__init__"))) (h14 : PySem.W.mroIn K C (.ref C) = some true) (h15 : PySem.W.exmOne K (.ref C) (.ref C) = some true)
    (h16 : PySem.W.nsIn K cStatics "thirdparty.any" = some none) (h17 : K.lookup fI = some ⟨oc, od, .func (PySem.W.ksFn "__init__" "Endless.__init__" (defArgs s_EndlessU_initU) (defBody s_EndlessU_initU) (defScope s_EndlessU_initU) .none .none doc pm an (.ref cda) ct cc), osl⟩) (h18 : PySem.W.codeIn K (.ref cda) "Endless.__init__" = true)
    (h19 : K.lookup cda = some ⟨ccl, cdd, .fields vs, ccs⟩) (h20 : vs[2]? = some (.str P.main.file tf)) (h21 : K.lookup cc = some ⟨cl, cld, .cell (some (.ref C)), csl⟩) (nf0 : PySem.W.findIn K (.ref C) "name" = some none) : ErrC P K C fI s_EndlessU_initU "Endless.__init__" ["name"] ef_Endless := by
  refine ⟨⟨nm, qn, N, bs, bm, sn, sub, ab, col, dd, k0, k1, k2, k3, k5, h1, h2⟩, h3, h4, h5, ?_, h6, h7, h8, h9, h10, h11, h12, h13, h14, h15, h16, ⟨oc, od, doc, pm, an, cda, cc, ct, osl, ccl, cdd, vs, ccs, tf, cl, cld, csl, h17, h18, h19, h20, h21⟩, ⟨_, rfl, rfl⟩, (fun _ _ _ _ _ _ us hl => match us, hl with | [_, _], _ => rfl),
    ⟨_, _, _, _, _, _, _, _, _, rfl, (.par (i := 0) rfl .nil), fun L cda cc => ⟨_, rfl⟩⟩, rfl, rfl, rfl, by decide +kernel, by decide +kernel, rfl, rfl, by decide +kernel, by decide +kernel⟩
  intro p hp
  rcases List.mem_cons.mp hp with rfl | hp
  · exact nf0
  · exact absurd hp (by simp)
abbrev ef_Failed : List (Str × Sum Nat Str) := [("word", .inl 0)]
theorem ec_Failed {K : PySem.W.Frag} {C fI : Addr} {nm qn : Str} {N : Addr} {bs bm : List Value} {sn : List Str} {sub : List Value} {ab : Bool} {col : Option Bool} {dd : Option Addr} {k0 k1 k2 k3 k5 : Option Value}
    {oc : Value} {od : Option Addr} {doc pm : Value} {an : Option Addr} {cda cc : Addr} {ct : Value} {osl : Array (Option Value)} {ccl : Value} {cdd : Option Addr} {vs : Array Value} {ccs : Array (Option Value)} {tf : Tok} {cl : Value} {cld : Option Addr} {csl : Array (Option Value)}
    (h1 : K.lookup C = some (excClassObj nm qn C N bs bm true sn sub ab col dd k0 k1 k2 k3 k5 "ValueError.__new__")) (h2 : PySem.HandSPX.refsVE bm = true) (h3 : PySem.W.findIn K (.ref C) "__setattr__" = some (some (.builtin "object.__setattr__")))
    (h4 : PySem.W.findIn K (.ref C) "__getattribute__" = some (some (.builtin "BaseException.__getattribute__"))) (h5 : PySem.W.findIn K (.ref C) "__getattr__" = some none) (h6 : PySem.W.findIn K (.ref C) "__init__" = some (some (.ref fI)))
    (h7 : PySem.W.typeIn K (.ref fI) = some (.type "function")) (h8 : PySem.W.keepIn K (.ref C) = true) (h9 : PySem.W.subIn K (.ref C) (.type "BaseException") = some true) (h10 : PySem.W.subIn K (.ref C) (.type "ValueError") = some true)
    (h11 : PySem.W.typeIn K (.ref C) = some (.type "type")) (h12 : PySem.W.hasDictIn K C = true) (h13 : PySem.W.ks_superIn K C C "__init__" = some (some (.builtin "ValueError.__init__"))) (h14 : PySem.W.mroIn K C (.ref C) = some true) (h15 : PySem.W.exmOne K (.ref C) (.ref C) = some true)
    (h16 : PySem.W.nsIn K cStatics "thirdparty.any" = some none) (h17 : K.lookup fI = some ⟨oc, od, .func (PySem.W.ksFn "__init__" "Failed.__init__" (defArgs s_FailedU_initU) (defBody s_FailedU_initU) (defScope s_FailedU_initU) .none .none doc pm an (.ref cda) ct cc), osl⟩) (h18 : PySem.W.codeIn K (.ref cda) "Failed.__init__" = true)
    (h19 : K.lookup cda = some ⟨ccl, cdd, .fields vs, ccs⟩) (h20 : vs[2]? = some (.str P.main.file tf)) (h21 : K.lookup cc = some ⟨cl, cld, .cell (some (.ref C)), csl⟩) (nf0 : PySem.W.findIn K (.ref C) "word" = some none) : ErrC P K C fI s_FailedU_initU "Failed.__init__" ["word"] ef_Failed := by
  refine ⟨⟨nm, qn, N, bs, bm, sn, sub, ab, col, dd, k0, k1, k2, k3, k5, h1, h2⟩, h3, h4, h5, ?_, h6, h7, h8, h9, h10, h11, h12, h13, h14, h15, h16, ⟨oc, od, doc, pm, an, cda, cc, ct, osl, ccl, cdd, vs, ccs, tf, cl, cld, csl, h17, h18, h19, h20, h21⟩, ⟨_, rfl, rfl⟩, (fun _ _ _ _ _ _ us hl => match us, hl with | [_, _], _ => rfl),
    ⟨_, _, _, _, _, _, _, _, _, rfl, (.par (i := 0) rfl .nil), fun L cda cc => ⟨_, rfl⟩⟩, rfl, rfl, rfl, by decide +kernel, by decide +kernel, rfl, rfl, by decide +kernel, by decide +kernel⟩
  intro p hp
  rcases List.mem_cons.mp hp with rfl | hp
  · exact nf0
  · exact absurd hp (by simp)
abbrev ef_Missing : List (Str × Sum Nat Str) := [("word", .inr "missing"), ("mode", .inl 0)]
theorem ec_Missing {K : PySem.W.Frag} {C fI : Addr} {nm qn : Str} {N : Addr} {bs bm : List Value} {sn : List Str} {sub : List Value} {ab : Bool} {col : Option Bool} {dd : Option Addr} {k0 k1 k2 k3 k5 : Option Value}
    {oc : Value} {od : Option Addr} {doc pm : Value} {an : Option Addr} {cda cc : Addr} {ct : Value} {osl : Array (Option Value)} {ccl : Value} {cdd : Option Addr} {vs : Array Value} {ccs : Array (Option Value)} {tf : Tok} {cl : Value} {cld : Option Addr} {csl : Array (Option Value)}
    (h1 : K.lookup C = some (excClassObj nm qn C N bs bm true sn sub ab col dd k0 k1 k2 k3 k5 "ValueError.__new__")) (h2 : PySem.HandSPX.refsVE bm = true) (h3 : PySem.W.findIn K (.ref C) "__setattr__" = some (some (.builtin "object.__setattr__")))
    (h4 : PySem.W.findIn K (.ref C) "__getattribute__" = some (some (.builtin "BaseException.__getattribute__"))) (h5 : PySem.W.findIn K (.ref C) "__getattr__" = some none) (h6 : PySem.W.findIn K (.ref C) "__init__" = some (some (.ref fI)))
    (h7 : PySem.W.typeIn K (.ref fI) = some (.type "function")) (h8 : PySem.W.keepIn K (.ref C) = true) (h9 : PySem.W.subIn K (.ref C) (.type "BaseException") = some true) (h10 : PySem.W.subIn K (.ref C) (.type "ValueError") = some true)
    (h11 : PySem.W.typeIn K (.ref C) = some (.type "type")) (h12 : PySem.W.hasDictIn K C = true) (h13 : PySem.W.ks_superIn K C C "__init__" = some (some (.builtin "ValueError.__init__"))) (h14 : PySem.W.mroIn K C (.ref C) = some true) (h15 : PySem.W.exmOne K (.ref C) (.ref C) = some true)
    (h16 : PySem.W.nsIn K cStatics "thirdparty.any" = some none) (h17 : K.lookup fI = some ⟨oc, od, .func (PySem.W.ksFn "__init__" "Missing.__init__" (defArgs s_MissingU_initU) (defBody s_MissingU_initU) (defScope s_MissingU_initU) .none .none doc pm an (.ref cda) ct cc), osl⟩) (h18 : PySem.W.codeIn K (.ref cda) "Missing.__init__" = true)
    (h19 : K.lookup cda = some ⟨ccl, cdd, .fields vs, ccs⟩) (h20 : vs[2]? = some (.str P.main.file tf)) (h21 : K.lookup cc = some ⟨cl, cld, .cell (some (.ref C)), csl⟩) (nf0 : PySem.W.findIn K (.ref C) "word" = some none) (nf1 : PySem.W.findIn K (.ref C) "mode" = some none) : ErrC P K C fI s_MissingU_initU "Missing.__init__" ["mode"] ef_Missing := by
  refine ⟨⟨nm, qn, N, bs, bm, sn, sub, ab, col, dd, k0, k1, k2, k3, k5, h1, h2⟩, h3, h4, h5, ?_, h6, h7, h8, h9, h10, h11, h12, h13, h14, h15, h16, ⟨oc, od, doc, pm, an, cda, cc, ct, osl, ccl, cdd, vs, ccs, tf, cl, cld, csl, h17, h18, h19, h20, h21⟩, ⟨_, rfl, rfl⟩, (fun _ _ _ _ _ _ us hl => match us, hl with | [_, _], _ => rfl),
    ⟨_, _, _, _, _, _, _, _, _, rfl, (.con (.par (i := 0) rfl .nil)), fun L cda cc => ⟨_, rfl⟩⟩, rfl, rfl, rfl, by decide +kernel, by decide +kernel, rfl, rfl, by decide +kernel, by decide +kernel⟩
  intro p hp
  rcases List.mem_cons.mp hp with rfl | hp
  · exact nf0
  rcases List.mem_cons.mp hp with rfl | hp
  · exact nf1
  · exact absurd hp (by simp)
abbrev ef_NoBlock : List (Str × Sum Nat Str) := []
theorem ec_NoBlock {K : PySem.W.Frag} {C fI : Addr} {nm qn : Str} {N : Addr} {bs bm : List Value} {sn : List Str} {sub : List Value} {ab : Bool} {col : Option Bool} {dd : Option Addr} {k0 k1 k2 k3 k5 : Option Value}
    {oc : Value} {od : Option Addr} {doc pm : Value} {an : Option Addr} {cda cc : Addr} {ct : Value} {osl : Array (Option Value)} {ccl : Value} {cdd : Option Addr} {vs : Array Value} {ccs : Array (Option Value)} {tf : Tok} {cl : Value} {cld : Option Addr} {csl : Array (Option Value)}
    (h1 : K.lookup C = some (excClassObj nm qn C N bs bm true sn sub ab col dd k0 k1 k2 k3 k5 "ValueError.__new__")) (h2 : PySem.HandSPX.refsVE bm = true) (h3 : PySem.W.findIn K (.ref C) "__setattr__" = some (some (.builtin "object.__setattr__")))
    (h4 : PySem.W.findIn K (.ref C) "__getattribute__" = some (some (.builtin "BaseException.__getattribute__"))) (h5 : PySem.W.findIn K (.ref C) "__getattr__" = some none) (h6 : PySem.W.findIn K (.ref C) "__init__" = some (some (.ref fI)))
    (h7 : PySem.W.typeIn K (.ref fI) = some (.type "function")) (h8 : PySem.W.keepIn K (.ref C) = true) (h9 : PySem.W.subIn K (.ref C) (.type "BaseException") = some true) (h10 : PySem.W.subIn K (.ref C) (.type "ValueError") = some true)
    (h11 : PySem.W.typeIn K (.ref C) = some (.type "type")) (h12 : PySem.W.hasDictIn K C = true) (h13 : PySem.W.ks_superIn K C C "__init__" = some (some (.builtin "ValueError.__init__"))) (h14 : PySem.W.mroIn K C (.ref C) = some true) (h15 : PySem.W.exmOne K (.ref C) (.ref C) = some true)
    (h16 : PySem.W.nsIn K cStatics "thirdparty.any" = some none) (h17 : K.lookup fI = some ⟨oc, od, .func (PySem.W.ksFn "__init__" "NoBlock.__init__" (defArgs s_NoBlockU_initU) (defBody s_NoBlockU_initU) (defScope s_NoBlockU_initU) .none .none doc pm an (.ref cda) ct cc), osl⟩) (h18 : PySem.W.codeIn K (.ref cda) "NoBlock.__init__" = true)
    (h19 : K.lookup cda = some ⟨ccl, cdd, .fields vs, ccs⟩) (h20 : vs[2]? = some (.str P.main.file tf)) (h21 : K.lookup cc = some ⟨cl, cld, .cell (some (.ref C)), csl⟩)  : ErrC P K C fI s_NoBlockU_initU "NoBlock.__init__" [] ef_NoBlock := by
  refine ⟨⟨nm, qn, N, bs, bm, sn, sub, ab, col, dd, k0, k1, k2, k3, k5, h1, h2⟩, h3, h4, h5, ?_, h6, h7, h8, h9, h10, h11, h12, h13, h14, h15, h16, ⟨oc, od, doc, pm, an, cda, cc, ct, osl, ccl, cdd, vs, ccs, tf, cl, cld, csl, h17, h18, h19, h20, h21⟩, ⟨_, rfl, rfl⟩, (fun _ _ _ _ _ _ us hl => match us, hl with | [_], _ => rfl),
    ⟨_, _, _, _, _, _, _, _, _, rfl, .nil, fun L cda cc => ⟨_, rfl⟩⟩, rfl, rfl, rfl, by decide +kernel, by decide +kernel, rfl, rfl, by decide +kernel, by decide +kernel⟩
  intro p hp
  exact absurd hp (by simp)
abbrev ef_NoCall : List (Str × Sum Nat Str) := [("number", .inl 0)]
theorem ec_NoCall {K : PySem.W.Frag} {C fI : Addr} {nm qn : Str} {N : Addr} {bs bm : List Value} {sn : List Str} {sub : List Value} {ab : Bool} {col : Option Bool} {dd : Option Addr} {k0 k1 k2 k3 k5 : Option Value}
    {oc : Value} {od : Option Addr} {doc pm : Value} {an : Option Addr} {cda cc : Addr} {ct : Value} {osl : Array (Option Value)} {ccl : Value} {cdd : Option Addr} {vs : Array Value} {ccs : Array (Option Value)} {tf : Tok} {cl : Value} {cld : Option Addr} {csl : Array (Option Value)}
    (h1 : K.lookup C = some (excClassObj nm qn C N bs bm true sn sub ab col dd k0 k1 k2 k3 k5 "ValueError.__new__")) (h2 : PySem.HandSPX.refsVE bm = true) (h3 : PySem.W.findIn K (.ref C) "__setattr__" = some (some (.builtin "object.__setattr__")))
    (h4 : PySem.W.findIn K (.ref C) "__getattribute__" = some (some (.builtin "BaseException.__getattribute__"))) (h5 : PySem.W.findIn K (.ref C) "__getattr__" = some none) (h6 : PySem.W.findIn K (.ref C) "__init__" = some (some (.ref fI)))
    (h7 : PySem.W.typeIn K (.ref fI) = some (.type "function")) (h8 : PySem.W.keepIn K (.ref C) = true) (h9 : PySem.W.subIn K (.ref C) (.type "BaseException") = some true) (h10 : PySem.W.subIn K (.ref C) (.type "ValueError") = some true)
    (h11 : PySem.W.typeIn K (.ref C) = some (.type "type")) (h12 : PySem.W.hasDictIn K C = true) (h13 : PySem.W.ks_superIn K C C "__init__" = some (some (.builtin "ValueError.__init__"))) (h14 : PySem.W.mroIn K C (.ref C) = some true) (h15 : PySem.W.exmOne K (.ref C) (.ref C) = some true)
    (h16 : PySem.W.nsIn K cStatics "thirdparty.any" = some none) (h17 : K.lookup fI = some ⟨oc, od, .func (PySem.W.ksFn "__init__" "NoCall.__init__" (defArgs s_NoCallU_initU) (defBody s_NoCallU_initU) (defScope s_NoCallU_initU) .none .none doc pm an (.ref cda) ct cc), osl⟩) (h18 : PySem.W.codeIn K (.ref cda) "NoCall.__init__" = true)
    (h19 : K.lookup cda = some ⟨ccl, cdd, .fields vs, ccs⟩) (h20 : vs[2]? = some (.str P.main.file tf)) (h21 : K.lookup cc = some ⟨cl, cld, .cell (some (.ref C)), csl⟩) (nf0 : PySem.W.findIn K (.ref C) "number" = some none) : ErrC P K C fI s_NoCallU_initU "NoCall.__init__" ["number"] ef_NoCall := by
  refine ⟨⟨nm, qn, N, bs, bm, sn, sub, ab, col, dd, k0, k1, k2, k3, k5, h1, h2⟩, h3, h4, h5, ?_, h6, h7, h8, h9, h10, h11, h12, h13, h14, h15, h16, ⟨oc, od, doc, pm, an, cda, cc, ct, osl, ccl, cdd, vs, ccs, tf, cl, cld, csl, h17, h18, h19, h20, h21⟩, ⟨_, rfl, rfl⟩, (fun _ _ _ _ _ _ us hl => match us, hl with | [_, _], _ => rfl),
    ⟨_, _, _, _, _, _, _, _, _, rfl, (.par (i := 0) rfl .nil), fun L cda cc => ⟨_, rfl⟩⟩, rfl, rfl, rfl, by decide +kernel, by decide +kernel, rfl, rfl, by decide +kernel, by decide +kernel⟩
  intro p hp
  rcases List.mem_cons.mp hp with rfl | hp
  · exact nf0
  · exact absurd hp (by simp)
abbrev ef_NoFace : List (Str × Sum Nat Str) := [("face", .inl 0)]
theorem ec_NoFace {K : PySem.W.Frag} {C fI : Addr} {nm qn : Str} {N : Addr} {bs bm : List Value} {sn : List Str} {sub : List Value} {ab : Bool} {col : Option Bool} {dd : Option Addr} {k0 k1 k2 k3 k5 : Option Value}
    {oc : Value} {od : Option Addr} {doc pm : Value} {an : Option Addr} {cda cc : Addr} {ct : Value} {osl : Array (Option Value)} {ccl : Value} {cdd : Option Addr} {vs : Array Value} {ccs : Array (Option Value)} {tf : Tok} {cl : Value} {cld : Option Addr} {csl : Array (Option Value)}
    (h1 : K.lookup C = some (excClassObj nm qn C N bs bm true sn sub ab col dd k0 k1 k2 k3 k5 "ValueError.__new__")) (h2 : PySem.HandSPX.refsVE bm = true) (h3 : PySem.W.findIn K (.ref C) "__setattr__" = some (some (.builtin "object.__setattr__")))
    (h4 : PySem.W.findIn K (.ref C) "__getattribute__" = some (some (.builtin "BaseException.__getattribute__"))) (h5 : PySem.W.findIn K (.ref C) "__getattr__" = some none) (h6 : PySem.W.findIn K (.ref C) "__init__" = some (some (.ref fI)))
    (h7 : PySem.W.typeIn K (.ref fI) = some (.type "function")) (h8 : PySem.W.keepIn K (.ref C) = true) (h9 : PySem.W.subIn K (.ref C) (.type "BaseException") = some true) (h10 : PySem.W.subIn K (.ref C) (.type "ValueError") = some true)
    (h11 : PySem.W.typeIn K (.ref C) = some (.type "type")) (h12 : PySem.W.hasDictIn K C = true) (h13 : PySem.W.ks_superIn K C C "__init__" = some (some (.builtin "ValueError.__init__"))) (h14 : PySem.W.mroIn K C (.ref C) = some true) (h15 : PySem.W.exmOne K (.ref C) (.ref C) = some true)
    (h16 : PySem.W.nsIn K cStatics "thirdparty.any" = some none) (h17 : K.lookup fI = some ⟨oc, od, .func (PySem.W.ksFn "__init__" "NoFace.__init__" (defArgs s_NoFaceU_initU) (defBody s_NoFaceU_initU) (defScope s_NoFaceU_initU) .none .none doc pm an (.ref cda) ct cc), osl⟩) (h18 : PySem.W.codeIn K (.ref cda) "NoFace.__init__" = true)
    (h19 : K.lookup cda = some ⟨ccl, cdd, .fields vs, ccs⟩) (h20 : vs[2]? = some (.str P.main.file tf)) (h21 : K.lookup cc = some ⟨cl, cld, .cell (some (.ref C)), csl⟩) (nf0 : PySem.W.findIn K (.ref C) "face" = some none) : ErrC P K C fI s_NoFaceU_initU "NoFace.__init__" ["face"] ef_NoFace := by
  refine ⟨⟨nm, qn, N, bs, bm, sn, sub, ab, col, dd, k0, k1, k2, k3, k5, h1, h2⟩, h3, h4, h5, ?_, h6, h7, h8, h9, h10, h11, h12, h13, h14, h15, h16, ⟨oc, od, doc, pm, an, cda, cc, ct, osl, ccl, cdd, vs, ccs, tf, cl, cld, csl, h17, h18, h19, h20, h21⟩, ⟨_, rfl, rfl⟩, (fun _ _ _ _ _ _ us hl => match us, hl with | [_, _], _ => rfl),
    ⟨_, _, _, _, _, _, _, _, _, rfl, (.par (i := 0) rfl .nil), fun L cda cc => ⟨_, rfl⟩⟩, rfl, rfl, rfl, by decide +kernel, by decide +kernel, rfl, rfl, by decide +kernel, by decide +kernel⟩
  intro p hp
  rcases List.mem_cons.mp hp with rfl | hp
  · exact nf0
  · exact absurd hp (by simp)
abbrev ef_NoFate : List (Str × Sum Nat Str) := [("kept", .inl 0)]
theorem ec_NoFate {K : PySem.W.Frag} {C fI : Addr} {nm qn : Str} {N : Addr} {bs bm : List Value} {sn : List Str} {sub : List Value} {ab : Bool} {col : Option Bool} {dd : Option Addr} {k0 k1 k2 k3 k5 : Option Value}
    {oc : Value} {od : Option Addr} {doc pm : Value} {an : Option Addr} {cda cc : Addr} {ct : Value} {osl : Array (Option Value)} {ccl : Value} {cdd : Option Addr} {vs : Array Value} {ccs : Array (Option Value)} {tf : Tok} {cl : Value} {cld : Option Addr} {csl : Array (Option Value)}
    (h1 : K.lookup C = some (excClassObj nm qn C N bs bm true sn sub ab col dd k0 k1 k2 k3 k5 "ValueError.__new__")) (h2 : PySem.HandSPX.refsVE bm = true) (h3 : PySem.W.findIn K (.ref C) "__setattr__" = some (some (.builtin "object.__setattr__")))
    (h4 : PySem.W.findIn K (.ref C) "__getattribute__" = some (some (.builtin "BaseException.__getattribute__"))) (h5 : PySem.W.findIn K (.ref C) "__getattr__" = some none) (h6 : PySem.W.findIn K (.ref C) "__init__" = some (some (.ref fI)))
    (h7 : PySem.W.typeIn K (.ref fI) = some (.type "function")) (h8 : PySem.W.keepIn K (.ref C) = true) (h9 : PySem.W.subIn K (.ref C) (.type "BaseException") = some true) (h10 : PySem.W.subIn K (.ref C) (.type "ValueError") = some true)
    (h11 : PySem.W.typeIn K (.ref C) = some (.type "type")) (h12 : PySem.W.hasDictIn K C = true) (h13 : PySem.W.ks_superIn K C C "__init__" = some (some (.builtin "ValueError.__init__"))) (h14 : PySem.W.mroIn K C (.ref C) = some true) (h15 : PySem.W.exmOne K (.ref C) (.ref C) = some true)
    (h16 : PySem.W.nsIn K cStatics "thirdparty.any" = some none) (h17 : K.lookup fI = some ⟨oc, od, .func (PySem.W.ksFn "__init__" "NoFate.__init__" (defArgs s_NoFateU_initU) (defBody s_NoFateU_initU) (defScope s_NoFateU_initU) .none .none doc pm an (.ref cda) ct cc), osl⟩) (h18 : PySem.W.codeIn K (.ref cda) "NoFate.__init__" = true)
    (h19 : K.lookup cda = some ⟨ccl, cdd, .fields vs, ccs⟩) (h20 : vs[2]? = some (.str P.main.file tf)) (h21 : K.lookup cc = some ⟨cl, cld, .cell (some (.ref C)), csl⟩) (nf0 : PySem.W.findIn K (.ref C) "kept" = some none) : ErrC P K C fI s_NoFateU_initU "NoFate.__init__" ["kept"] ef_NoFate := by
  refine ⟨⟨nm, qn, N, bs, bm, sn, sub, ab, col, dd, k0, k1, k2, k3, k5, h1, h2⟩, h3, h4, h5, ?_, h6, h7, h8, h9, h10, h11, h12, h13, h14, h15, h16, ⟨oc, od, doc, pm, an, cda, cc, ct, osl, ccl, cdd, vs, ccs, tf, cl, cld, csl, h17, h18, h19, h20, h21⟩, ⟨_, rfl, rfl⟩, (fun _ _ _ _ _ _ us hl => match us, hl with | [_, _], _ => rfl),
    ⟨_, _, _, _, _, _, _, _, _, rfl, (.par (i := 0) rfl .nil), fun L cda cc => ⟨_, rfl⟩⟩, rfl, rfl, rfl, by decide +kernel, by decide +kernel, rfl, rfl, by decide +kernel, by decide +kernel⟩
  intro p hp
  rcases List.mem_cons.mp hp with rfl | hp
  · exact nf0
  · exact absurd hp (by simp)
abbrev ef_NoFunction : List (Str × Sum Nat Str) := [("name", .inl 0)]
theorem ec_NoFunction {K : PySem.W.Frag} {C fI : Addr} {nm qn : Str} {N : Addr} {bs bm : List Value} {sn : List Str} {sub : List Value} {ab : Bool} {col : Option Bool} {dd : Option Addr} {k0 k1 k2 k3 k5 : Option Value}
    {oc : Value} {od : Option Addr} {doc pm : Value} {an : Option Addr} {cda cc : Addr} {ct : Value} {osl : Array (Option Value)} {ccl : Value} {cdd : Option Addr} {vs : Array Value} {ccs : Array (Option Value)} {tf : Tok} {cl : Value} {cld : Option Addr} {csl : Array (Option Value)}
    (h1 : K.lookup C = some (excClassObj nm qn C N bs bm true sn sub ab col dd k0 k1 k2 k3 k5 "ValueError.__new__")) (h2 : PySem.HandSPX.refsVE bm = true) (h3 : PySem.W.findIn K (.ref C) "__setattr__" = some (some (.builtin "object.__setattr__")))
    (h4 : PySem.W.findIn K (.ref C) "__getattribute__" = some (some (.builtin "BaseException.__getattribute__"))) (h5 : PySem.W.findIn K (.ref C) "__getattr__" = some none) (h6 : PySem.W.findIn K (.ref C) "__init__" = some (some (.ref fI)))
    (h7 : PySem.W.typeIn K (.ref fI) = some (.type "function")) (h8 : PySem.W.keepIn K (.ref C) = true) (h9 : PySem.W.subIn K (.ref C) (.type "BaseException") = some true) (h10 : PySem.W.subIn K (.ref C) (.type "ValueError") = some true)
    (h11 : PySem.W.typeIn K (.ref C) = some (.type "type")) (h12 : PySem.W.hasDictIn K C = true) (h13 : PySem.W.ks_superIn K C C "__init__" = some (some (.builtin "ValueError.__init__"))) (h14 : PySem.W.mroIn K C (.ref C) = some true) (h15 : PySem.W.exmOne K (.ref C) (.ref C) = some true)
    (h16 : PySem.W.nsIn K cStatics "thirdparty.any" = some none) (h17 : K.lookup fI = some ⟨oc, od, .func (PySem.W.ksFn "__init__" "NoFunction.__init__" (defArgs s_NoFunctionU_initU) (defBody s_NoFunctionU_initU) (defScope s_NoFunctionU_initU) .none .none doc pm an (.ref cda) ct cc), osl⟩) (h18 : PySem.W.codeIn K (.ref cda) "NoFunction.__init__" = true)
    (h19 : K.lookup cda = some ⟨ccl, cdd, .fields vs, ccs⟩) (h20 : vs[2]? = some (.str P.main.file tf)) (h21 : K.lookup cc = some ⟨cl, cld, .cell (some (.ref C)), csl⟩) (nf0 : PySem.W.findIn K (.ref C) "name" = some none) : ErrC P K C fI s_NoFunctionU_initU "NoFunction.__init__" ["name"] ef_NoFunction := by
  refine ⟨⟨nm, qn, N, bs, bm, sn, sub, ab, col, dd, k0, k1, k2, k3, k5, h1, h2⟩, h3, h4, h5, ?_, h6, h7, h8, h9, h10, h11, h12, h13, h14, h15, h16, ⟨oc, od, doc, pm, an, cda, cc, ct, osl, ccl, cdd, vs, ccs, tf, cl, cld, csl, h17, h18, h19, h20, h21⟩, ⟨_, rfl, rfl⟩, (fun _ _ _ _ _ _ us hl => match us, hl with | [_, _], _ => rfl),
    ⟨_, _, _, _, _, _, _, _, _, rfl, (.par (i := 0) rfl .nil), fun L cda cc => ⟨_, rfl⟩⟩, rfl, rfl, rfl, by decide +kernel, by decide +kernel, rfl, rfl, by decide +kernel, by decide +kernel⟩
  intro p hp
  rcases List.mem_cons.mp hp with rfl | hp
  · exact nf0
  · exact absurd hp (by simp)
abbrev ef_NoRecord : List (Str × Sum Nat Str) := [("record", .inl 0)]
theorem ec_NoRecord {K : PySem.W.Frag} {C fI : Addr} {nm qn : Str} {N : Addr} {bs bm : List Value} {sn : List Str} {sub : List Value} {ab : Bool} {col : Option Bool} {dd : Option Addr} {k0 k1 k2 k3 k5 : Option Value}
    {oc : Value} {od : Option Addr} {doc pm : Value} {an : Option Addr} {cda cc : Addr} {ct : Value} {osl : Array (Option Value)} {ccl : Value} {cdd : Option Addr} {vs : Array Value} {ccs : Array (Option Value)} {tf : Tok} {cl : Value} {cld : Option Addr} {csl : Array (Option Value)}
    (h1 : K.lookup C = some (excClassObj nm qn C N bs bm true sn sub ab col dd k0 k1 k2 k3 k5 "ValueError.__new__")) (h2 : PySem.HandSPX.refsVE bm = true) (h3 : PySem.W.findIn K (.ref C) "__setattr__" = some (some (.builtin "object.__setattr__")))
    (h4 : PySem.W.findIn K (.ref C) "__getattribute__" = some (some (.builtin "BaseException.__getattribute__"))) (h5 : PySem.W.findIn K (.ref C) "__getattr__" = some none) (h6 : PySem.W.findIn K (.ref C) "__init__" = some (some (.ref fI)))
    (h7 : PySem.W.typeIn K (.ref fI) = some (.type "function")) (h8 : PySem.W.keepIn K (.ref C) = true) (h9 : PySem.W.subIn K (.ref C) (.type "BaseException") = some true) (h10 : PySem.W.subIn K (.ref C) (.type "ValueError") = some true)
    (h11 : PySem.W.typeIn K (.ref C) = some (.type "type")) (h12 : PySem.W.hasDictIn K C = true) (h13 : PySem.W.ks_superIn K C C "__init__" = some (some (.builtin "ValueError.__init__"))) (h14 : PySem.W.mroIn K C (.ref C) = some true) (h15 : PySem.W.exmOne K (.ref C) (.ref C) = some true)
    (h16 : PySem.W.nsIn K cStatics "thirdparty.any" = some none) (h17 : K.lookup fI = some ⟨oc, od, .func (PySem.W.ksFn "__init__" "NoRecord.__init__" (defArgs s_NoRecordU_initU) (defBody s_NoRecordU_initU) (defScope s_NoRecordU_initU) .none .none doc pm an (.ref cda) ct cc), osl⟩) (h18 : PySem.W.codeIn K (.ref cda) "NoRecord.__init__" = true)
    (h19 : K.lookup cda = some ⟨ccl, cdd, .fields vs, ccs⟩) (h20 : vs[2]? = some (.str P.main.file tf)) (h21 : K.lookup cc = some ⟨cl, cld, .cell (some (.ref C)), csl⟩) (nf0 : PySem.W.findIn K (.ref C) "record" = some none) : ErrC P K C fI s_NoRecordU_initU "NoRecord.__init__" ["record"] ef_NoRecord := by
  refine ⟨⟨nm, qn, N, bs, bm, sn, sub, ab, col, dd, k0, k1, k2, k3, k5, h1, h2⟩, h3, h4, h5, ?_, h6, h7, h8, h9, h10, h11, h12, h13, h14, h15, h16, ⟨oc, od, doc, pm, an, cda, cc, ct, osl, ccl, cdd, vs, ccs, tf, cl, cld, csl, h17, h18, h19, h20, h21⟩, ⟨_, rfl, rfl⟩, (fun _ _ _ _ _ _ us hl => match us, hl with | [_, _], _ => rfl),
    ⟨_, _, _, _, _, _, _, _, _, rfl, (.par (i := 0) rfl .nil), fun L cda cc => ⟨_, rfl⟩⟩, rfl, rfl, rfl, by decide +kernel, by decide +kernel, rfl, rfl, by decide +kernel, by decide +kernel⟩
  intro p hp
  rcases List.mem_cons.mp hp with rfl | hp
  · exact nf0
  · exact absurd hp (by simp)
abbrev ef_NoRow : List (Str × Sum Nat Str) := [("name", .inl 0), ("case", .inl 1)]
theorem ec_NoRow {K : PySem.W.Frag} {C fI : Addr} {nm qn : Str} {N : Addr} {bs bm : List Value} {sn : List Str} {sub : List Value} {ab : Bool} {col : Option Bool} {dd : Option Addr} {k0 k1 k2 k3 k5 : Option Value}
    {oc : Value} {od : Option Addr} {doc pm : Value} {an : Option Addr} {cda cc : Addr} {ct : Value} {osl : Array (Option Value)} {ccl : Value} {cdd : Option Addr} {vs : Array Value} {ccs : Array (Option Value)} {tf : Tok} {cl : Value} {cld : Option Addr} {csl : Array (Option Value)}
    (h1 : K.lookup C = some (excClassObj nm qn C N bs bm true sn sub ab col dd k0 k1 k2 k3 k5 "ValueError.__new__")) (h2 : PySem.HandSPX.refsVE bm = true) (h3 : PySem.W.findIn K (.ref C) "__setattr__" = some (some (.builtin "object.__setattr__")))
    (h4 : PySem.W.findIn K (.ref C) "__getattribute__" = some (some (.builtin "BaseException.__getattribute__"))) (h5 : PySem.W.findIn K (.ref C) "__getattr__" = some none) (h6 : PySem.W.findIn K (.ref C) "__init__" = some (some (.ref fI)))
    (h7 : PySem.W.typeIn K (.ref fI) = some (.type "function")) (h8 : PySem.W.keepIn K (.ref C) = true) (h9 : PySem.W.subIn K (.ref C) (.type "BaseException") = some true) (h10 : PySem.W.subIn K (.ref C) (.type "ValueError") = some true)
    (h11 : PySem.W.typeIn K (.ref C) = some (.type "type")) (h12 : PySem.W.hasDictIn K C = true) (h13 : PySem.W.ks_superIn K C C "__init__" = some (some (.builtin "ValueError.__init__"))) (h14 : PySem.W.mroIn K C (.ref C) = some true) (h15 : PySem.W.exmOne K (.ref C) (.ref C) = some true)
    (h16 : PySem.W.nsIn K cStatics "thirdparty.any" = some none) (h17 : K.lookup fI = some ⟨oc, od, .func (PySem.W.ksFn "__init__" "NoRow.__init__" (defArgs s_NoRowU_initU) (defBody s_NoRowU_initU) (defScope s_NoRowU_initU) .none .none doc pm an (.ref cda) ct cc), osl⟩) (h18 : PySem.W.codeIn K (.ref cda) "NoRow.__init__" = true)
    (h19 : K.lookup cda = some ⟨ccl, cdd, .fields vs, ccs⟩) (h20 : vs[2]? = some (.str P.main.file tf)) (h21 : K.lookup cc = some ⟨cl, cld, .cell (some (.ref C)), csl⟩) (nf0 : PySem.W.findIn K (.ref C) "name" = some none) (nf1 : PySem.W.findIn K (.ref C) "case" = some none) : ErrC P K C fI s_NoRowU_initU "NoRow.__init__" ["name", "case"] ef_NoRow := by
  refine ⟨⟨nm, qn, N, bs, bm, sn, sub, ab, col, dd, k0, k1, k2, k3, k5, h1, h2⟩, h3, h4, h5, ?_, h6, h7, h8, h9, h10, h11, h12, h13, h14, h15, h16, ⟨oc, od, doc, pm, an, cda, cc, ct, osl, ccl, cdd, vs, ccs, tf, cl, cld, csl, h17, h18, h19, h20, h21⟩, ⟨_, rfl, rfl⟩, (fun _ _ _ _ _ _ us hl => match us, hl with | [_, _, _], _ => rfl),
    ⟨_, _, _, _, _, _, _, _, _, rfl, (.par (i := 0) rfl (.par (i := 1) rfl .nil)), fun L cda cc => ⟨_, rfl⟩⟩, rfl, rfl, rfl, by decide +kernel, by decide +kernel, rfl, rfl, by decide +kernel, by decide +kernel⟩
  intro p hp
  rcases List.mem_cons.mp hp with rfl | hp
  · exact nf0
  rcases List.mem_cons.mp hp with rfl | hp
  · exact nf1
  · exact absurd hp (by simp)
abbrev ef_NotNow : List (Str × Sum Nat Str) := [("thing", .inl 0)]
theorem ec_NotNow {K : PySem.W.Frag} {C fI : Addr} {nm qn : Str} {N : Addr} {bs bm : List Value} {sn : List Str} {sub : List Value} {ab : Bool} {col : Option Bool} {dd : Option Addr} {k0 k1 k2 k3 k5 : Option Value}
    {oc : Value} {od : Option Addr} {doc pm : Value} {an : Option Addr} {cda cc : Addr} {ct : Value} {osl : Array (Option Value)} {ccl : Value} {cdd : Option Addr} {vs : Array Value} {ccs : Array (Option Value)} {tf : Tok} {cl : Value} {cld : Option Addr} {csl : Array (Option Value)}
    (h1 : K.lookup C = some (excClassObj nm qn C N bs bm true sn sub ab col dd k0 k1 k2 k3 k5 "ValueError.__new__")) (h2 : PySem.HandSPX.refsVE bm = true) (h3 : PySem.W.findIn K (.ref C) "__setattr__" = some (some (.builtin "object.__setattr__")))
    (h4 : PySem.W.findIn K (.ref C) "__getattribute__" = some (some (.builtin "BaseException.__getattribute__"))) (h5 : PySem.W.findIn K (.ref C) "__getattr__" = some none) (h6 : PySem.W.findIn K (.ref C) "__init__" = some (some (.ref fI)))
    (h7 : PySem.W.typeIn K (.ref fI) = some (.type "function")) (h8 : PySem.W.keepIn K (.ref C) = true) (h9 : PySem.W.subIn K (.ref C) (.type "BaseException") = some true) (h10 : PySem.W.subIn K (.ref C) (.type "ValueError") = some true)
    (h11 : PySem.W.typeIn K (.ref C) = some (.type "type")) (h12 : PySem.W.hasDictIn K C = true) (h13 : PySem.W.ks_superIn K C C "__init__" = some (some (.builtin "ValueError.__init__"))) (h14 : PySem.W.mroIn K C (.ref C) = some true) (h15 : PySem.W.exmOne K (.ref C) (.ref C) = some true)
    (h16 : PySem.W.nsIn K cStatics "thirdparty.any" = some none) (h17 : K.lookup fI = some ⟨oc, od, .func (PySem.W.ksFn "__init__" "NotNow.__init__" (defArgs s_NotNowU_initU) (defBody s_NotNowU_initU) (defScope s_NotNowU_initU) .none .none doc pm an (.ref cda) ct cc), osl⟩) (h18 : PySem.W.codeIn K (.ref cda) "NotNow.__init__" = true)
    (h19 : K.lookup cda = some ⟨ccl, cdd, .fields vs, ccs⟩) (h20 : vs[2]? = some (.str P.main.file tf)) (h21 : K.lookup cc = some ⟨cl, cld, .cell (some (.ref C)), csl⟩) (nf0 : PySem.W.findIn K (.ref C) "thing" = some none) : ErrC P K C fI s_NotNowU_initU "NotNow.__init__" ["thing"] ef_NotNow := by
  refine ⟨⟨nm, qn, N, bs, bm, sn, sub, ab, col, dd, k0, k1, k2, k3, k5, h1, h2⟩, h3, h4, h5, ?_, h6, h7, h8, h9, h10, h11, h12, h13, h14, h15, h16, ⟨oc, od, doc, pm, an, cda, cc, ct, osl, ccl, cdd, vs, ccs, tf, cl, cld, csl, h17, h18, h19, h20, h21⟩, ⟨_, rfl, rfl⟩, (fun _ _ _ _ _ _ us hl => match us, hl with | [_, _], _ => rfl),
    ⟨_, _, _, _, _, _, _, _, _, rfl, (.par (i := 0) rfl .nil), fun L cda cc => ⟨_, rfl⟩⟩, rfl, rfl, rfl, by decide +kernel, by decide +kernel, rfl, rfl, by decide +kernel, by decide +kernel⟩
  intro p hp
  rcases List.mem_cons.mp hp with rfl | hp
  · exact nf0
  · exact absurd hp (by simp)
abbrev ef_Present : List (Str × Sum Nat Str) := [("word", .inr "present"), ("mode", .inl 0)]
theorem ec_Present {K : PySem.W.Frag} {C fI : Addr} {nm qn : Str} {N : Addr} {bs bm : List Value} {sn : List Str} {sub : List Value} {ab : Bool} {col : Option Bool} {dd : Option Addr} {k0 k1 k2 k3 k5 : Option Value}
    {oc : Value} {od : Option Addr} {doc pm : Value} {an : Option Addr} {cda cc : Addr} {ct : Value} {osl : Array (Option Value)} {ccl : Value} {cdd : Option Addr} {vs : Array Value} {ccs : Array (Option Value)} {tf : Tok} {cl : Value} {cld : Option Addr} {csl : Array (Option Value)}
    (h1 : K.lookup C = some (excClassObj nm qn C N bs bm true sn sub ab col dd k0 k1 k2 k3 k5 "ValueError.__new__")) (h2 : PySem.HandSPX.refsVE bm = true) (h3 : PySem.W.findIn K (.ref C) "__setattr__" = some (some (.builtin "object.__setattr__")))
    (h4 : PySem.W.findIn K (.ref C) "__getattribute__" = some (some (.builtin "BaseException.__getattribute__"))) (h5 : PySem.W.findIn K (.ref C) "__getattr__" = some none) (h6 : PySem.W.findIn K (.ref C) "__init__" = some (some (.ref fI)))
    (h7 : PySem.W.typeIn K (.ref fI) = some (.type "function")) (h8 : PySem.W.keepIn K (.ref C) = true) (h9 : PySem.W.subIn K (.ref C) (.type "BaseException") = some true) (h10 : PySem.W.subIn K (.ref C) (.type "ValueError") = some true)
    (h11 : PySem.W.typeIn K (.ref C) = some (.type "type")) (h12 : PySem.W.hasDictIn K C = true) (h13 : PySem.W.ks_superIn K C C "__init__" = some (some (.builtin "ValueError.__init__"))) (h14 : PySem.W.mroIn K C (.ref C) = some true) (h15 : PySem.W.exmOne K (.ref C) (.ref C) = some true)
    (h16 : PySem.W.nsIn K cStatics "thirdparty.any" = some none) (h17 : K.lookup fI = some ⟨oc, od, .func (PySem.W.ksFn "__init__" "Present.__init__" (defArgs s_PresentU_initU) (defBody s_PresentU_initU) (defScope s_PresentU_initU) .none .none doc pm an (.ref cda) ct cc), osl⟩) (h18 : PySem.W.codeIn K (.ref cda) "Present.__init__" = true)
    (h19 : K.lookup cda = some ⟨ccl, cdd, .fields vs, ccs⟩) (h20 : vs[2]? = some (.str P.main.file tf)) (h21 : K.lookup cc = some ⟨cl, cld, .cell (some (.ref C)), csl⟩) (nf0 : PySem.W.findIn K (.ref C) "word" = some none) (nf1 : PySem.W.findIn K (.ref C) "mode" = some none) : ErrC P K C fI s_PresentU_initU "Present.__init__" ["mode"] ef_Present := by
  refine ⟨⟨nm, qn, N, bs, bm, sn, sub, ab, col, dd, k0, k1, k2, k3, k5, h1, h2⟩, h3, h4, h5, ?_, h6, h7, h8, h9, h10, h11, h12, h13, h14, h15, h16, ⟨oc, od, doc, pm, an, cda, cc, ct, osl, ccl, cdd, vs, ccs, tf, cl, cld, csl, h17, h18, h19, h20, h21⟩, ⟨_, rfl, rfl⟩, (fun _ _ _ _ _ _ us hl => match us, hl with | [_, _], _ => rfl),
    ⟨_, _, _, _, _, _, _, _, _, rfl, (.con (.par (i := 0) rfl .nil)), fun L cda cc => ⟨_, rfl⟩⟩, rfl, rfl, rfl, by decide +kernel, by decide +kernel, rfl, rfl, by decide +kernel, by decide +kernel⟩
  intro p hp
  rcases List.mem_cons.mp hp with rfl | hp
  · exact nf0
  rcases List.mem_cons.mp hp with rfl | hp
  · exact nf1
  · exact absurd hp (by simp)
abbrev ef_Refused : List (Str × Sum Nat Str) := [("word", .inr "refused")]
theorem ec_Refused {K : PySem.W.Frag} {C fI : Addr} {nm qn : Str} {N : Addr} {bs bm : List Value} {sn : List Str} {sub : List Value} {ab : Bool} {col : Option Bool} {dd : Option Addr} {k0 k1 k2 k3 k5 : Option Value}
    {oc : Value} {od : Option Addr} {doc pm : Value} {an : Option Addr} {cda cc : Addr} {ct : Value} {osl : Array (Option Value)} {ccl : Value} {cdd : Option Addr} {vs : Array Value} {ccs : Array (Option Value)} {tf : Tok} {cl : Value} {cld : Option Addr} {csl : Array (Option Value)}
    (h1 : K.lookup C = some (excClassObj nm qn C N bs bm true sn sub ab col dd k0 k1 k2 k3 k5 "ValueError.__new__")) (h2 : PySem.HandSPX.refsVE bm = true) (h3 : PySem.W.findIn K (.ref C) "__setattr__" = some (some (.builtin "object.__setattr__")))
    (h4 : PySem.W.findIn K (.ref C) "__getattribute__" = some (some (.builtin "BaseException.__getattribute__"))) (h5 : PySem.W.findIn K (.ref C) "__getattr__" = some none) (h6 : PySem.W.findIn K (.ref C) "__init__" = some (some (.ref fI)))
    (h7 : PySem.W.typeIn K (.ref fI) = some (.type "function")) (h8 : PySem.W.keepIn K (.ref C) = true) (h9 : PySem.W.subIn K (.ref C) (.type "BaseException") = some true) (h10 : PySem.W.subIn K (.ref C) (.type "ValueError") = some true)
    (h11 : PySem.W.typeIn K (.ref C) = some (.type "type")) (h12 : PySem.W.hasDictIn K C = true) (h13 : PySem.W.ks_superIn K C C "__init__" = some (some (.builtin "ValueError.__init__"))) (h14 : PySem.W.mroIn K C (.ref C) = some true) (h15 : PySem.W.exmOne K (.ref C) (.ref C) = some true)
    (h16 : PySem.W.nsIn K cStatics "thirdparty.any" = some none) (h17 : K.lookup fI = some ⟨oc, od, .func (PySem.W.ksFn "__init__" "Refused.__init__" (defArgs s_RefusedU_initU) (defBody s_RefusedU_initU) (defScope s_RefusedU_initU) .none .none doc pm an (.ref cda) ct cc), osl⟩) (h18 : PySem.W.codeIn K (.ref cda) "Refused.__init__" = true)
    (h19 : K.lookup cda = some ⟨ccl, cdd, .fields vs, ccs⟩) (h20 : vs[2]? = some (.str P.main.file tf)) (h21 : K.lookup cc = some ⟨cl, cld, .cell (some (.ref C)), csl⟩) (nf0 : PySem.W.findIn K (.ref C) "word" = some none) : ErrC P K C fI s_RefusedU_initU "Refused.__init__" [] ef_Refused := by
  refine ⟨⟨nm, qn, N, bs, bm, sn, sub, ab, col, dd, k0, k1, k2, k3, k5, h1, h2⟩, h3, h4, h5, ?_, h6, h7, h8, h9, h10, h11, h12, h13, h14, h15, h16, ⟨oc, od, doc, pm, an, cda, cc, ct, osl, ccl, cdd, vs, ccs, tf, cl, cld, csl, h17, h18, h19, h20, h21⟩, ⟨_, rfl, rfl⟩, (fun _ _ _ _ _ _ us hl => match us, hl with | [_], _ => rfl),
    ⟨_, _, _, _, _, _, _, _, _, rfl, (.con .nil), fun L cda cc => ⟨_, rfl⟩⟩, rfl, rfl, rfl, by decide +kernel, by decide +kernel, rfl, rfl, by decide +kernel, by decide +kernel⟩
  intro p hp
  rcases List.mem_cons.mp hp with rfl | hp
  · exact nf0
  · exact absurd hp (by simp)
abbrev ef_TooMany : List (Str × Sum Nat Str) := [("what", .inl 0)]
theorem ec_TooMany {K : PySem.W.Frag} {C fI : Addr} {nm qn : Str} {N : Addr} {bs bm : List Value} {sn : List Str} {sub : List Value} {ab : Bool} {col : Option Bool} {dd : Option Addr} {k0 k1 k2 k3 k5 : Option Value}
    {oc : Value} {od : Option Addr} {doc pm : Value} {an : Option Addr} {cda cc : Addr} {ct : Value} {osl : Array (Option Value)} {ccl : Value} {cdd : Option Addr} {vs : Array Value} {ccs : Array (Option Value)} {tf : Tok} {cl : Value} {cld : Option Addr} {csl : Array (Option Value)}
    (h1 : K.lookup C = some (excClassObj nm qn C N bs bm true sn sub ab col dd k0 k1 k2 k3 k5 "ValueError.__new__")) (h2 : PySem.HandSPX.refsVE bm = true) (h3 : PySem.W.findIn K (.ref C) "__setattr__" = some (some (.builtin "object.__setattr__")))
    (h4 : PySem.W.findIn K (.ref C) "__getattribute__" = some (some (.builtin "BaseException.__getattribute__"))) (h5 : PySem.W.findIn K (.ref C) "__getattr__" = some none) (h6 : PySem.W.findIn K (.ref C) "__init__" = some (some (.ref fI)))
    (h7 : PySem.W.typeIn K (.ref fI) = some (.type "function")) (h8 : PySem.W.keepIn K (.ref C) = true) (h9 : PySem.W.subIn K (.ref C) (.type "BaseException") = some true) (h10 : PySem.W.subIn K (.ref C) (.type "ValueError") = some true)
    (h11 : PySem.W.typeIn K (.ref C) = some (.type "type")) (h12 : PySem.W.hasDictIn K C = true) (h13 : PySem.W.ks_superIn K C C "__init__" = some (some (.builtin "ValueError.__init__"))) (h14 : PySem.W.mroIn K C (.ref C) = some true) (h15 : PySem.W.exmOne K (.ref C) (.ref C) = some true)
    (h16 : PySem.W.nsIn K cStatics "thirdparty.any" = some none) (h17 : K.lookup fI = some ⟨oc, od, .func (PySem.W.ksFn "__init__" "TooMany.__init__" (defArgs s_TooManyU_initU) (defBody s_TooManyU_initU) (defScope s_TooManyU_initU) .none .none doc pm an (.ref cda) ct cc), osl⟩) (h18 : PySem.W.codeIn K (.ref cda) "TooMany.__init__" = true)
    (h19 : K.lookup cda = some ⟨ccl, cdd, .fields vs, ccs⟩) (h20 : vs[2]? = some (.str P.main.file tf)) (h21 : K.lookup cc = some ⟨cl, cld, .cell (some (.ref C)), csl⟩) (nf0 : PySem.W.findIn K (.ref C) "what" = some none) : ErrC P K C fI s_TooManyU_initU "TooMany.__init__" ["what"] ef_TooMany := by
  refine ⟨⟨nm, qn, N, bs, bm, sn, sub, ab, col, dd, k0, k1, k2, k3, k5, h1, h2⟩, h3, h4, h5, ?_, h6, h7, h8, h9, h10, h11, h12, h13, h14, h15, h16, ⟨oc, od, doc, pm, an, cda, cc, ct, osl, ccl, cdd, vs, ccs, tf, cl, cld, csl, h17, h18, h19, h20, h21⟩, ⟨_, rfl, rfl⟩, (fun _ _ _ _ _ _ us hl => match us, hl with | [_, _], _ => rfl),
    ⟨_, _, _, _, _, _, _, _, _, rfl, (.par (i := 0) rfl .nil), fun L cda cc => ⟨_, rfl⟩⟩, rfl, rfl, rfl, by decide +kernel, by decide +kernel, rfl, rfl, by decide +kernel, by decide +kernel⟩
  intro p hp
  rcases List.mem_cons.mp hp with rfl | hp
  · exact nf0
  · exact absurd hp (by simp)
abbrev ef_Unknown : List (Str × Sum Nat Str) := [("name", .inl 0)]
theorem ec_Unknown {K : PySem.W.Frag} {C fI : Addr} {nm qn : Str} {N : Addr} {bs bm : List Value} {sn : List Str} {sub : List Value} {ab : Bool} {col : Option Bool} {dd : Option Addr} {k0 k1 k2 k3 k5 : Option Value}
    {oc : Value} {od : Option Addr} {doc pm : Value} {an : Option Addr} {cda cc : Addr} {ct : Value} {osl : Array (Option Value)} {ccl : Value} {cdd : Option Addr} {vs : Array Value} {ccs : Array (Option Value)} {tf : Tok} {cl : Value} {cld : Option Addr} {csl : Array (Option Value)}
    (h1 : K.lookup C = some (excClassObj nm qn C N bs bm true sn sub ab col dd k0 k1 k2 k3 k5 "ValueError.__new__")) (h2 : PySem.HandSPX.refsVE bm = true) (h3 : PySem.W.findIn K (.ref C) "__setattr__" = some (some (.builtin "object.__setattr__")))
    (h4 : PySem.W.findIn K (.ref C) "__getattribute__" = some (some (.builtin "BaseException.__getattribute__"))) (h5 : PySem.W.findIn K (.ref C) "__getattr__" = some none) (h6 : PySem.W.findIn K (.ref C) "__init__" = some (some (.ref fI)))
    (h7 : PySem.W.typeIn K (.ref fI) = some (.type "function")) (h8 : PySem.W.keepIn K (.ref C) = true) (h9 : PySem.W.subIn K (.ref C) (.type "BaseException") = some true) (h10 : PySem.W.subIn K (.ref C) (.type "ValueError") = some true)
    (h11 : PySem.W.typeIn K (.ref C) = some (.type "type")) (h12 : PySem.W.hasDictIn K C = true) (h13 : PySem.W.ks_superIn K C C "__init__" = some (some (.builtin "ValueError.__init__"))) (h14 : PySem.W.mroIn K C (.ref C) = some true) (h15 : PySem.W.exmOne K (.ref C) (.ref C) = some true)
    (h16 : PySem.W.nsIn K cStatics "thirdparty.any" = some none) (h17 : K.lookup fI = some ⟨oc, od, .func (PySem.W.ksFn "__init__" "Unknown.__init__" (defArgs s_UnknownU_initU) (defBody s_UnknownU_initU) (defScope s_UnknownU_initU) .none .none doc pm an (.ref cda) ct cc), osl⟩) (h18 : PySem.W.codeIn K (.ref cda) "Unknown.__init__" = true)
    (h19 : K.lookup cda = some ⟨ccl, cdd, .fields vs, ccs⟩) (h20 : vs[2]? = some (.str P.main.file tf)) (h21 : K.lookup cc = some ⟨cl, cld, .cell (some (.ref C)), csl⟩) (nf0 : PySem.W.findIn K (.ref C) "name" = some none) : ErrC P K C fI s_UnknownU_initU "Unknown.__init__" ["name"] ef_Unknown := by
  refine ⟨⟨nm, qn, N, bs, bm, sn, sub, ab, col, dd, k0, k1, k2, k3, k5, h1, h2⟩, h3, h4, h5, ?_, h6, h7, h8, h9, h10, h11, h12, h13, h14, h15, h16, ⟨oc, od, doc, pm, an, cda, cc, ct, osl, ccl, cdd, vs, ccs, tf, cl, cld, csl, h17, h18, h19, h20, h21⟩, ⟨_, rfl, rfl⟩, (fun _ _ _ _ _ _ us hl => match us, hl with | [_, _], _ => rfl),
    ⟨_, _, _, _, _, _, _, _, _, rfl, (.par (i := 0) rfl .nil), fun L cda cc => ⟨_, rfl⟩⟩, rfl, rfl, rfl, by decide +kernel, by decide +kernel, rfl, rfl, by decide +kernel, by decide +kernel⟩
  intro p hp
  rcases List.mem_cons.mp hp with rfl | hp
  · exact nf0
  · exact absurd hp (by simp)
abbrev ef_Unlike : List (Str × Sum Nat Str) := [("name", .inl 0)]
theorem ec_Unlike {K : PySem.W.Frag} {C fI : Addr} {nm qn : Str} {N : Addr} {bs bm : List Value} {sn : List Str} {sub : List Value} {ab : Bool} {col : Option Bool} {dd : Option Addr} {k0 k1 k2 k3 k5 : Option Value}
    {oc : Value} {od : Option Addr} {doc pm : Value} {an : Option Addr} {cda cc : Addr} {ct : Value} {osl : Array (Option Value)} {ccl : Value} {cdd : Option Addr} {vs : Array Value} {ccs : Array (Option Value)} {tf : Tok} {cl : Value} {cld : Option Addr} {csl : Array (Option Value)}
    (h1 : K.lookup C = some (excClassObj nm qn C N bs bm true sn sub ab col dd k0 k1 k2 k3 k5 "ValueError.__new__")) (h2 : PySem.HandSPX.refsVE bm = true) (h3 : PySem.W.findIn K (.ref C) "__setattr__" = some (some (.builtin "object.__setattr__")))
    (h4 : PySem.W.findIn K (.ref C) "__getattribute__" = some (some (.builtin "BaseException.__getattribute__"))) (h5 : PySem.W.findIn K (.ref C) "__getattr__" = some none) (h6 : PySem.W.findIn K (.ref C) "__init__" = some (some (.ref fI)))
    (h7 : PySem.W.typeIn K (.ref fI) = some (.type "function")) (h8 : PySem.W.keepIn K (.ref C) = true) (h9 : PySem.W.subIn K (.ref C) (.type "BaseException") = some true) (h10 : PySem.W.subIn K (.ref C) (.type "ValueError") = some true)
    (h11 : PySem.W.typeIn K (.ref C) = some (.type "type")) (h12 : PySem.W.hasDictIn K C = true) (h13 : PySem.W.ks_superIn K C C "__init__" = some (some (.builtin "ValueError.__init__"))) (h14 : PySem.W.mroIn K C (.ref C) = some true) (h15 : PySem.W.exmOne K (.ref C) (.ref C) = some true)
    (h16 : PySem.W.nsIn K cStatics "thirdparty.any" = some none) (h17 : K.lookup fI = some ⟨oc, od, .func (PySem.W.ksFn "__init__" "Unlike.__init__" (defArgs s_UnlikeU_initU) (defBody s_UnlikeU_initU) (defScope s_UnlikeU_initU) .none .none doc pm an (.ref cda) ct cc), osl⟩) (h18 : PySem.W.codeIn K (.ref cda) "Unlike.__init__" = true)
    (h19 : K.lookup cda = some ⟨ccl, cdd, .fields vs, ccs⟩) (h20 : vs[2]? = some (.str P.main.file tf)) (h21 : K.lookup cc = some ⟨cl, cld, .cell (some (.ref C)), csl⟩) (nf0 : PySem.W.findIn K (.ref C) "name" = some none) : ErrC P K C fI s_UnlikeU_initU "Unlike.__init__" ["name"] ef_Unlike := by
  refine ⟨⟨nm, qn, N, bs, bm, sn, sub, ab, col, dd, k0, k1, k2, k3, k5, h1, h2⟩, h3, h4, h5, ?_, h6, h7, h8, h9, h10, h11, h12, h13, h14, h15, h16, ⟨oc, od, doc, pm, an, cda, cc, ct, osl, ccl, cdd, vs, ccs, tf, cl, cld, csl, h17, h18, h19, h20, h21⟩, ⟨_, rfl, rfl⟩, (fun _ _ _ _ _ _ us hl => match us, hl with | [_, _], _ => rfl),
    ⟨_, _, _, _, _, _, _, _, _, rfl, (.par (i := 0) rfl .nil), fun L cda cc => ⟨_, rfl⟩⟩, rfl, rfl, rfl, by decide +kernel, by decide +kernel, rfl, rfl, by decide +kernel, by decide +kernel⟩
  intro p hp
  rcases List.mem_cons.mp hp with rfl | hp
  · exact nf0
  · exact absurd hp (by simp)
abbrev ef_Waits : List (Str × Sum Nat Str) := [("word", .inr "waits"), ("record", .inl 0)]
theorem ec_Waits {K : PySem.W.Frag} {C fI : Addr} {nm qn : Str} {N : Addr} {bs bm : List Value} {sn : List Str} {sub : List Value} {ab : Bool} {col : Option Bool} {dd : Option Addr} {k0 k1 k2 k3 k5 : Option Value}
    {oc : Value} {od : Option Addr} {doc pm : Value} {an : Option Addr} {cda cc : Addr} {ct : Value} {osl : Array (Option Value)} {ccl : Value} {cdd : Option Addr} {vs : Array Value} {ccs : Array (Option Value)} {tf : Tok} {cl : Value} {cld : Option Addr} {csl : Array (Option Value)}
    (h1 : K.lookup C = some (excClassObj nm qn C N bs bm true sn sub ab col dd k0 k1 k2 k3 k5 "ValueError.__new__")) (h2 : PySem.HandSPX.refsVE bm = true) (h3 : PySem.W.findIn K (.ref C) "__setattr__" = some (some (.builtin "object.__setattr__")))
    (h4 : PySem.W.findIn K (.ref C) "__getattribute__" = some (some (.builtin "BaseException.__getattribute__"))) (h5 : PySem.W.findIn K (.ref C) "__getattr__" = some none) (h6 : PySem.W.findIn K (.ref C) "__init__" = some (some (.ref fI)))
    (h7 : PySem.W.typeIn K (.ref fI) = some (.type "function")) (h8 : PySem.W.keepIn K (.ref C) = true) (h9 : PySem.W.subIn K (.ref C) (.type "BaseException") = some true) (h10 : PySem.W.subIn K (.ref C) (.type "ValueError") = some true)
    (h11 : PySem.W.typeIn K (.ref C) = some (.type "type")) (h12 : PySem.W.hasDictIn K C = true) (h13 : PySem.W.ks_superIn K C C "__init__" = some (some (.builtin "ValueError.__init__"))) (h14 : PySem.W.mroIn K C (.ref C) = some true) (h15 : PySem.W.exmOne K (.ref C) (.ref C) = some true)
    (h16 : PySem.W.nsIn K cStatics "thirdparty.any" = some none) (h17 : K.lookup fI = some ⟨oc, od, .func (PySem.W.ksFn "__init__" "Waits.__init__" (defArgs s_WaitsU_initU) (defBody s_WaitsU_initU) (defScope s_WaitsU_initU) .none .none doc pm an (.ref cda) ct cc), osl⟩) (h18 : PySem.W.codeIn K (.ref cda) "Waits.__init__" = true)
    (h19 : K.lookup cda = some ⟨ccl, cdd, .fields vs, ccs⟩) (h20 : vs[2]? = some (.str P.main.file tf)) (h21 : K.lookup cc = some ⟨cl, cld, .cell (some (.ref C)), csl⟩) (nf0 : PySem.W.findIn K (.ref C) "word" = some none) (nf1 : PySem.W.findIn K (.ref C) "record" = some none) : ErrC P K C fI s_WaitsU_initU "Waits.__init__" ["record"] ef_Waits := by
  refine ⟨⟨nm, qn, N, bs, bm, sn, sub, ab, col, dd, k0, k1, k2, k3, k5, h1, h2⟩, h3, h4, h5, ?_, h6, h7, h8, h9, h10, h11, h12, h13, h14, h15, h16, ⟨oc, od, doc, pm, an, cda, cc, ct, osl, ccl, cdd, vs, ccs, tf, cl, cld, csl, h17, h18, h19, h20, h21⟩, ⟨_, rfl, rfl⟩, (fun _ _ _ _ _ _ us hl => match us, hl with | [_, _], _ => rfl),
    ⟨_, _, _, _, _, _, _, _, _, rfl, (.con (.par (i := 0) rfl .nil)), fun L cda cc => ⟨_, rfl⟩⟩, rfl, rfl, rfl, by decide +kernel, by decide +kernel, rfl, rfl, by decide +kernel, by decide +kernel⟩
  intro p hp
  rcases List.mem_cons.mp hp with rfl | hp
  · exact nf0
  rcases List.mem_cons.mp hp with rfl | hp
  · exact nf1
  · exact absurd hp (by simp)
structure Ad where
  InnercommitsError : Addr
  BadChange : Addr
  BadChangeU_initU : Addr
  BadLibrary : Addr
  BadLibraryU_initU : Addr
  BadMode : Addr
  BadModeU_initU : Addr
  BadMove : Addr
  BadMoveU_initU : Addr
  BadRecords : Addr
  BadRecordsU_initU : Addr
  BadWord : Addr
  BadWordU_initU : Addr
  Clash : Addr
  ClashU_initU : Addr
  Doomed : Addr
  DoomedU_initU : Addr
  Endless : Addr
  EndlessU_initU : Addr
  Failed : Addr
  FailedU_initU : Addr
  Missing : Addr
  MissingU_initU : Addr
  NoBlock : Addr
  NoBlockU_initU : Addr
  NoCall : Addr
  NoCallU_initU : Addr
  NoFace : Addr
  NoFaceU_initU : Addr
  NoFate : Addr
  NoFateU_initU : Addr
  NoFunction : Addr
  NoFunctionU_initU : Addr
  NoRecord : Addr
  NoRecordU_initU : Addr
  NoRow : Addr
  NoRowU_initU : Addr
  NotNow : Addr
  NotNowU_initU : Addr
  Present : Addr
  PresentU_initU : Addr
  Refused : Addr
  RefusedU_initU : Addr
  TooMany : Addr
  TooManyU_initU : Addr
  Unknown : Addr
  UnknownU_initU : Addr
  Unlike : Addr
  UnlikeU_initU : Addr
  Waits : Addr
  WaitsU_initU : Addr
  law_pool : Addr
  law_draw : Addr
  law_word : Addr
  law_thing : Addr
  law_classes : Addr
  law_first : Addr
  law_second : Addr
  law_fields : Addr
  law : Addr
structure Fd where
  law_pool : FuncData
  law_draw : FuncData
  law_word : FuncData
  law_thing : FuncData
  law_classes : FuncData
  law_first : FuncData
  law_second : FuncData
  law_fields : FuncData
  law : FuncData
structure Txt (K : PySem.W.Frag) (mg : Str → Option Value) (a : Ad) (d : Fd) : Prop where
  g_InnercommitsError : mg "InnercommitsError" = some (.ref a.InnercommitsError)
  g_BadChange : mg "BadChange" = some (.ref a.BadChange)
  e_BadChange : ErrC P K a.BadChange a.BadChangeU_initU s_BadChangeU_initU "BadChange.__init__" ["index"] ef_BadChange
  g_BadLibrary : mg "BadLibrary" = some (.ref a.BadLibrary)
  e_BadLibrary : ErrC P K a.BadLibrary a.BadLibraryU_initU s_BadLibraryU_initU "BadLibrary.__init__" ["line"] ef_BadLibrary
  g_BadMode : mg "BadMode" = some (.ref a.BadMode)
  e_BadMode : ErrC P K a.BadMode a.BadModeU_initU s_BadModeU_initU "BadMode.__init__" ["mode"] ef_BadMode
  g_BadMove : mg "BadMove" = some (.ref a.BadMove)
  e_BadMove : ErrC P K a.BadMove a.BadMoveU_initU s_BadMoveU_initU "BadMove.__init__" ["thing"] ef_BadMove
  g_BadRecords : mg "BadRecords" = some (.ref a.BadRecords)
  e_BadRecords : ErrC P K a.BadRecords a.BadRecordsU_initU s_BadRecordsU_initU "BadRecords.__init__" ["record"] ef_BadRecords
  g_BadWord : mg "BadWord" = some (.ref a.BadWord)
  e_BadWord : ErrC P K a.BadWord a.BadWordU_initU s_BadWordU_initU "BadWord.__init__" ["word"] ef_BadWord
  g_Clash : mg "Clash" = some (.ref a.Clash)
  e_Clash : ErrC P K a.Clash a.ClashU_initU s_ClashU_initU "Clash.__init__" ["name"] ef_Clash
  g_Doomed : mg "Doomed" = some (.ref a.Doomed)
  e_Doomed : ErrC P K a.Doomed a.DoomedU_initU s_DoomedU_initU "Doomed.__init__" ["first"] ef_Doomed
  g_Endless : mg "Endless" = some (.ref a.Endless)
  e_Endless : ErrC P K a.Endless a.EndlessU_initU s_EndlessU_initU "Endless.__init__" ["name"] ef_Endless
  g_Failed : mg "Failed" = some (.ref a.Failed)
  e_Failed : ErrC P K a.Failed a.FailedU_initU s_FailedU_initU "Failed.__init__" ["word"] ef_Failed
  g_Missing : mg "Missing" = some (.ref a.Missing)
  e_Missing : ErrC P K a.Missing a.MissingU_initU s_MissingU_initU "Missing.__init__" ["mode"] ef_Missing
  g_NoBlock : mg "NoBlock" = some (.ref a.NoBlock)
  e_NoBlock : ErrC P K a.NoBlock a.NoBlockU_initU s_NoBlockU_initU "NoBlock.__init__" [] ef_NoBlock
  g_NoCall : mg "NoCall" = some (.ref a.NoCall)
  e_NoCall : ErrC P K a.NoCall a.NoCallU_initU s_NoCallU_initU "NoCall.__init__" ["number"] ef_NoCall
  g_NoFace : mg "NoFace" = some (.ref a.NoFace)
  e_NoFace : ErrC P K a.NoFace a.NoFaceU_initU s_NoFaceU_initU "NoFace.__init__" ["face"] ef_NoFace
  g_NoFate : mg "NoFate" = some (.ref a.NoFate)
  e_NoFate : ErrC P K a.NoFate a.NoFateU_initU s_NoFateU_initU "NoFate.__init__" ["kept"] ef_NoFate
  g_NoFunction : mg "NoFunction" = some (.ref a.NoFunction)
  e_NoFunction : ErrC P K a.NoFunction a.NoFunctionU_initU s_NoFunctionU_initU "NoFunction.__init__" ["name"] ef_NoFunction
  g_NoRecord : mg "NoRecord" = some (.ref a.NoRecord)
  e_NoRecord : ErrC P K a.NoRecord a.NoRecordU_initU s_NoRecordU_initU "NoRecord.__init__" ["record"] ef_NoRecord
  g_NoRow : mg "NoRow" = some (.ref a.NoRow)
  e_NoRow : ErrC P K a.NoRow a.NoRowU_initU s_NoRowU_initU "NoRow.__init__" ["name", "case"] ef_NoRow
  g_NotNow : mg "NotNow" = some (.ref a.NotNow)
  e_NotNow : ErrC P K a.NotNow a.NotNowU_initU s_NotNowU_initU "NotNow.__init__" ["thing"] ef_NotNow
  g_Present : mg "Present" = some (.ref a.Present)
  e_Present : ErrC P K a.Present a.PresentU_initU s_PresentU_initU "Present.__init__" ["mode"] ef_Present
  g_Refused : mg "Refused" = some (.ref a.Refused)
  e_Refused : ErrC P K a.Refused a.RefusedU_initU s_RefusedU_initU "Refused.__init__" [] ef_Refused
  g_TooMany : mg "TooMany" = some (.ref a.TooMany)
  e_TooMany : ErrC P K a.TooMany a.TooManyU_initU s_TooManyU_initU "TooMany.__init__" ["what"] ef_TooMany
  g_Unknown : mg "Unknown" = some (.ref a.Unknown)
  e_Unknown : ErrC P K a.Unknown a.UnknownU_initU s_UnknownU_initU "Unknown.__init__" ["name"] ef_Unknown
  g_Unlike : mg "Unlike" = some (.ref a.Unlike)
  e_Unlike : ErrC P K a.Unlike a.UnlikeU_initU s_UnlikeU_initU "Unlike.__init__" ["name"] ef_Unlike
  g_Waits : mg "Waits" = some (.ref a.Waits)
  e_Waits : ErrC P K a.Waits a.WaitsU_initU s_WaitsU_initU "Waits.__init__" ["record"] ef_Waits
  km : kitAll K [a.BadChange, a.BadLibrary, a.BadMode, a.BadMove, a.BadRecords, a.BadWord, a.Clash, a.Doomed, a.Endless, a.Failed, a.Missing, a.NoBlock, a.NoCall, a.NoFace, a.NoFate, a.NoFunction, a.NoRecord, a.NoRow, a.NotNow, a.Present, a.Refused, a.TooMany, a.Unknown, a.Unlike, a.Waits] = true
  kb : kitBase K a.InnercommitsError [a.BadChange, a.BadLibrary, a.BadMode, a.BadMove, a.BadRecords, a.BadWord, a.Clash, a.Doomed, a.Endless, a.Failed, a.Missing, a.NoBlock, a.NoCall, a.NoFace, a.NoFate, a.NoFunction, a.NoRecord, a.NoRow, a.NotNow, a.Present, a.Refused, a.TooMany, a.Unknown, a.Unlike, a.Waits] = true
  kx : exkAll K [a.BadChange, a.BadLibrary, a.BadMode, a.BadMove, a.BadRecords, a.BadWord, a.Clash, a.Doomed, a.Endless, a.Failed, a.Missing, a.NoBlock, a.NoCall, a.NoFace, a.NoFate, a.NoFunction, a.NoRecord, a.NoRow, a.NotNow, a.Present, a.Refused, a.TooMany, a.Unknown, a.Unlike, a.Waits] = true
  ks : PySem.W.specialIn K (.builtin "object.__class__") "__get__" = some (some (.builtin "getset_descriptor.__get__"))
  kt : PySem.W.takesIn K (.builtin "object.__class__") = some true
  law_pool : Fun K "_law_pool" "_law_pool" s_law_pool a.law_pool d.law_pool
  b_law_pool : Binds K d.law_pool ["_law_script", "_law_at"] []
  g_law_pool : mg "_law_pool" = some (.ref a.law_pool)
  law_draw : Fun K "_law_draw" "_law_draw" s_law_draw a.law_draw d.law_draw
  b_law_draw : Binds K d.law_draw ["_law_pool_here", "_law_many"] []
  g_law_draw : mg "_law_draw" = some (.ref a.law_draw)
  law_word : Fun K "_law_word" "_law_word" s_law_word a.law_word d.law_word
  b_law_word : Binds K d.law_word ["_law_pool_here"] []
  g_law_word : mg "_law_word" = some (.ref a.law_word)
  law_thing : Fun K "_law_thing" "_law_thing" s_law_thing a.law_thing d.law_thing
  b_law_thing : Binds K d.law_thing ["_law_pool_here"] []
  g_law_thing : mg "_law_thing" = some (.ref a.law_thing)
  law_classes : Fun K "_law_classes" "_law_classes" s_law_classes a.law_classes d.law_classes
  b_law_classes : Binds K d.law_classes ["_law_e"] []
  g_law_classes : mg "_law_classes" = some (.ref a.law_classes)
  law_first : Fun K "_law_first" "_law_first" s_law_first a.law_first d.law_first
  b_law_first : Binds K d.law_first ["_law_one", "_law_two"] []
  g_law_first : mg "_law_first" = some (.ref a.law_first)
  law_second : Fun K "_law_second" "_law_second" s_law_second a.law_second d.law_second
  b_law_second : Binds K d.law_second ["_law_one", "_law_two"] []
  g_law_second : mg "_law_second" = some (.ref a.law_second)
  law_fields : Fun K "_law_fields" "_law_fields" s_law_fields a.law_fields d.law_fields
  b_law_fields : Binds K d.law_fields ["_law_e", "_law_k"] []
  g_law_fields : mg "_law_fields" = some (.ref a.law_fields)
  law : Fun K "law" "law" s_law a.law d.law
  b_law : Binds K d.law ["_law_script"] []
  g_law : mg "law" = some (.ref a.law)
  n_len : mg "len" = none
  n_abs : mg "abs" = none
  n_int : mg "int" = none
  n_range : mg "range" = none
  n_isinstance : mg "isinstance" = none
  n_super : mg "super" = none
  n_max : mg "max" = none
  n_min : mg "min" = none
  n_ValueError : mg "ValueError" = none
  n_repr : mg "repr" = none

section
variable {w : World} {K : PySem.W.Frag} {mg : Str → Option Value} {base : Heap} {a : Ad} {d : Fd}
theorem ok_law_draw (T : Txt K mg a d) : FnOk P w K mg base CX0 1 a.law_draw d.law_draw ["_law_pool_here", "_law_many"] spDraw := by
  refine T.law_draw.ok sc_law_draw (fun vs H Q E h => ?_) (fun cdv A outer s H vs Q E hr h => ?_)
  · obtain ⟨p, m, c, o, rfl, _⟩ := h
    rfl
  · obtain ⟨p, m, c, o, rfl, hp, ⟨x, y, n, rfl, hx, hy, hy2, hn, hn2⟩, hm, hm2, hc, k⟩ := h
    have hw : ∀ i : Int, CDivW i m := fun i => wide_div (b := 200) hm (by omega) (by decide) (by decide)
    have e1 : (b2 : Int) → 0 ≤ b2 → b2 < 2 ^ 62 → CPow (b2 + 48611 * (n + 1)) 3 := fun b2 h1 h2 => ⟨by decide, by decide, by omega⟩
    have e2 : (b2 : Int) → 0 ≤ b2 → b2 < 2 ^ 62 → CPow (b2 + 104729 * (n + 1)) 3 := fun b2 h1 h2 => ⟨by decide, by decide, by omega⟩
    have e3 : ∀ i j : Int, -1000000 < i → i < 1000000 → CMul i j := fun i j h1 h2 => .inl ⟨by omega, by omega⟩
    refine ⟨_, (pss_cons (ps_if (pt_cmpR op_gt (pe_ix ix_list (pv 0) pe_int (fun _ _ => rfl)) pe_int (nomark _)) (pss_cons (ps_set (i := 2) sc_law_draw.nd rfl (Or.inl rfl) (pe_op op_mod (pe_callTy call_int1 (by rfl) T.n_int (by decide +kernel) (pa_cons (pe_ix ix_list (pv 0) pe_int (fun _ _ => rfl)) pa_nil)) (pv 1)))
  (pss_cons (ps_asg (pe_op op_fdivW (pe_ix ix_list (pv 0) pe_int (fun _ _ => rfl)) (pv 1)) (pg_sub (pv 0) pe_int set_list))
  (pss_one (ps_ret (pv 2))))) pss_nil)
  (pss_cons (ps_set (i := 3) sc_law_draw.nd rfl (Or.inl rfl) (pe_op op_add (pe_ix ix_list (pv 0) pe_int (fun _ _ => rfl)) pe_int))
  (pss_cons (ps_asg (pv 3) (pg_sub (pv 0) pe_int set_list))
  (pss_cons (ps_set (i := 4) sc_law_draw.nd rfl (Or.inl rfl) (pe_op op_mod (pe_callTy call_int1 (by rfl) T.n_int (by decide +kernel) (pa_cons (pe_op op_add (pe_op op_pow (pe_op op_add (pe_ix ix_list (pv 0) pe_int (fun _ _ => rfl)) (pe_op op_mul pe_int (pv 3))) pe_int) (pe_op op_mul pe_int (pv 3))) pa_nil)) pe_int))
  (pss_cons (ps_set (i := 4) sc_law_draw.nd rfl (Or.inl rfl) (pe_op op_mod (pe_callTy call_int1 (by rfl) T.n_int (by decide +kernel) (pa_cons (pe_op op_pow (pe_op op_add (pv 4) (pe_op op_mul pe_int (pv 3))) pe_int) pa_nil)) pe_int))
  (pss_one (ps_ret (pe_op op_mod (pe_callTy call_int1 (by rfl) T.n_int (by decide +kernel) (pa_cons (pe_op op_fdivW (pv 4) pe_int) pa_nil)) (pv 1))))))))), ?_⟩
    dsimp only [cxOf]
    walk_at "rd"
    refine ite2 (fun c0 => ?_) (fun c0 => ?_)
    · have c1 : 0 < x := of_decide_eq_true c0
      walk_at "rd"
      refine And.intro (hw _) ?_
      walk_at "rd"
      refine k _ _ (Int.emod_nonneg _ (by omega)) (Int.emod_lt_of_pos _ hm) ⟨_, _, _, rfl, Int.ediv_nonneg (by omega) (by omega), hy, hy2, hn, by omega⟩
    · walk_at "rd"
      refine And.intro (e1 _ hy hy2) ?_
      walk_at "rd"
      refine And.intro (e2 _ (Int.emod_nonneg _ (by decide)) (Int.lt_trans (Int.emod_lt_of_pos _ (by decide)) (by decide))) ?_
      walk_at "rd"
      refine k _ _ (Int.emod_nonneg _ (by omega)) (Int.emod_lt_of_pos _ hm) ⟨_, _, _, rfl, hx, hy, hy2, by omega, by omega⟩
theorem ok_law_pool (T : Txt K mg a d) : FnOk P w K mg base CX0 1 a.law_pool d.law_pool ["_law_script", "_law_at"] (spPool K) := by
  refine T.law_pool.ok sc_law_pool (fun vs H Q E h => ?_) (fun cdv A outer s H vs Q E hr h => ?_)
  · obtain ⟨p, ns, i, rfl, _⟩ := h
    rfl
  · obtain ⟨p, ns, i, rfl, hS, hi, k⟩ := h
    have e3 : ∀ i j : Int, -1000000 < i → i < 1000000 → CMul i j := fun i j h1 h2 => .inl ⟨by omega, by omega⟩
    have e4 : ∀ i j : Int, -1000000 < j → j < 1000000 → CMul i j := fun i j h1 h2 => .inr ⟨by omega, by omega⟩
    refine ⟨_, (pss_cons (ps_set (i := 2) sc_law_pool.nd rfl (Or.inl rfl) (pe_ifExp (pt_cmpR op_lt (pv 1) (pe_callB call_len_seq (by rfl) T.n_len PySem.boot_len (pa_cons (pv 0) pa_nil)) (nomark _)) (pe_ix ix_list (pv 0) (pv 1) (fun _ _ => rfl)) pe_int))
  (pss_cons (ps_set (i := 3) sc_law_pool.nd rfl (Or.inl rfl) (pe_callB call_abs (by rfl) T.n_abs (by decide +kernel) (pa_cons (pv 2) pa_nil)))
  (pss_cons (ps_set (i := 4) sc_law_pool.nd rfl (Or.inl rfl) (pe_op op_mod (pe_callTy call_int1 (by rfl) T.n_int (by decide +kernel) (pa_cons (pe_op op_add (pe_op op_add (pe_op op_mul (pv 3) pe_int) (pe_op op_mul pe_int (pv 1))) (pe_callTy call_int1 (by rfl) T.n_int (by decide +kernel) (pa_cons (pe_cmpR op_lt (pv 2) pe_int (nomark _)) pa_nil))) pa_nil)) pe_int))
  (pss_one (ps_ret (pe_lst (pa_cons (pe_ifExp (pt_cmpR op_ge (pv 3) (pe_op op_pow pe_int pe_int) (nomark _)) (pv 3) pe_int) (pa_cons (pe_op op_add (pv 4) pe_int) (pa_cons pe_int pa_nil))))))))), ?_⟩
    dsimp only [cxOf]
    walk_at "rd"
    refine ite2 (fun c0 => ?_) (fun c0 => ?_)
    · have c1 : (i : Int) < ((ns.map V.int).length : Int) := of_decide_eq_true c0
      rw [List.length_map] at c1
      have c2 : i < ns.length := by omega
      have hz : (ns.map V.int)[i]? = some (.int ns[i]) := by
        rw [List.getElem?_map, List.getElem?_eq_getElem c2]; rfl
      walk_at "rd"
      refine And.intro (atI_nat hz) ?_
      walk_at "rd"
      refine ite2 (fun c2 => ?_) (fun c2 => ?_)
      all_goals
        walk_at "rd"
        intro q hq
        exact k q _ hq ⟨_, _, _, rfl, (by first | (split <;> omega) | decide), Int.add_nonneg (Int.emod_nonneg _ (by decide)) (by decide), Int.lt_trans (Int.add_lt_add_right (Int.emod_lt_of_pos _ (by decide)) _) (by decide), Int.le_refl 0, Int.le_refl 0⟩
    · walk_at "rd"
      intro q hq
      exact k q _ hq ⟨_, _, _, rfl, Int.le_refl 0, Int.add_nonneg (Int.emod_nonneg _ (by decide)) (by decide), Int.lt_trans (Int.add_lt_add_right (Int.emod_lt_of_pos _ (by decide)) _) (by decide), Int.le_refl 0, Int.le_refl 0⟩
theorem ok_law_word (T : Txt K mg a d) : FnOk P w K mg base CX0 2 a.law_word d.law_word ["_law_pool_here"] spWord := by
  have G_law_draw : FnOk P w K mg base CX0 1 a.law_draw d.law_draw ["_law_pool_here", "_law_many"] spDraw := ok_law_draw T
  refine T.law_word.ok sc_law_word (fun vs H Q E h => ?_) (fun cdv A outer s H vs Q E hr h => ?_)
  · obtain ⟨p, c, o, rfl, _⟩ := h
    rfl
  · obtain ⟨p, c, o, rfl, hp, hc, hb, k⟩ := h
    refine ⟨_, (pss_cons (ps_set (i := 1) sc_law_word.nd rfl (Or.inr rfl) pe_str)
  (pss_one (ps_ret (pe_join pe_str (pe_lc (own := [("_law_k", 2)]) (tt := tYes) rfl sc_law_word.nd (pi_range1 (by rfl) T.n_range (pa_cons (pe_op op_add pe_int (pe_call G_law_draw (hr.mono (by decide)) (by rfl) T.g_law_draw T.law_draw.kp T.b_law_draw .nil pass0 (pa_cons (pv 0) (pa_cons pe_int pa_nil)))) pa_nil)) (blkOk_by (own := [("_law_k", 2)]) (N := ["_law_pool_here", "_law_letters", "_law_k"]) (sc := defScope s_law_word) (by decide +kernel)) (fun _ _ _ _ _ => (pg_name (i := 2) sc_law_word.nd rfl (Or.inl rfl))) (fun _ _ _ _ _ => pts_nil) (fun _ _ _ _ _ => (pe_ix ix_str (pv 1) (pe_call G_law_draw (hr.mono (by decide)) (by rfl) T.g_law_draw T.law_draw.kp T.b_law_draw .nil pass0 (pa_cons (pv 0) (pa_cons pe_int pa_nil))) (fun _ _ => rfl)))))))), ?_⟩
    dsimp only [cxOf]
    walk_at "rd"
    intro r o1 r0 r1 h1
    walk_at "rd"
    intro D hD
    refine lc_letters (c := c + 1) hD upd_same h1 (by omega) (by omega) rfl rfl (by decide) (by decide) fun H' cs o2 e1 e2 e3 e4 e5 e6 => ?_
    refine ⟨_, _, cs.map chr1, rfl, rfl, Or.inl (SqL.of e6), ?_, ?_⟩
    · rw [sum_chr, e1]
      have : (Str.ofString "").length = 0 := by decide +kernel
      rw [this]; omega
    · rw [join_chr]
      refine k _ o2 _ ⟨?_, ?_, e2⟩ (e5.mono (by omega)) e4 (Kp.refl.set1.trans e3)
      · show 1 ≤ cs.length
        omega
      · show cs.length ≤ 8
        omega
theorem hba_NoRow (T : Txt K mg a d) : ∀ (ws : List Value) (x : Addr) (doc pm : Value) (an : Option Addr) (cda cc : Addr) (ct : Value), ws.length = (["case", "name"] : List Str).length → bindArgs (PySem.W.ksFn "__init__" "NoRow.__init__" (defArgs s_NoRowU_initU) (defBody s_NoRowU_initU) (defScope s_NoRowU_initU) .none .none doc pm an (.ref cda) ct cc) ⟨[.ref x], (["case", "name"] : List Str).zip ws⟩ = pure ((("self" : Str) :: ["name", "case"]).zip (.ref x :: gsw ws)) := fun ws x doc pm an cda cc ct h => match ws, h with
  | [_, _], _ => rfl
theorem hba_Waits (T : Txt K mg a d) : ∀ (ws : List Value) (x : Addr) (doc pm : Value) (an : Option Addr) (cda cc : Addr) (ct : Value), ws.length = (["record"] : List Str).length → bindArgs (PySem.W.ksFn "__init__" "Waits.__init__" (defArgs s_WaitsU_initU) (defBody s_WaitsU_initU) (defScope s_WaitsU_initU) .none .none doc pm an (.ref cda) ct cc) ⟨[.ref x], (["record"] : List Str).zip ws⟩ = pure ((("self" : Str) :: ["record"]).zip (.ref x :: gid ws)) := fun ws x doc pm an cda cc ct h => match ws, h with
  | [_], _ => rfl
/-! ### k88: the errors by number -/
def clsA (a : Ad) : List Addr := [a.BadChange, a.BadLibrary, a.BadMode, a.BadMove, a.BadRecords, a.BadWord, a.Clash, a.Doomed, a.Endless, a.Failed, a.Missing, a.NoBlock, a.NoCall, a.NoFace, a.NoFate, a.NoFunction, a.NoRecord, a.NoRow, a.NotNow, a.Present, a.Refused, a.TooMany, a.Unknown, a.Unlike, a.Waits]
def fsE : List (List (Str × Sum Nat Str)) := [ef_BadChange, ef_BadLibrary, ef_BadMode, ef_BadMove, ef_BadRecords, ef_BadWord, ef_Clash, ef_Doomed, ef_Endless, ef_Failed, ef_Missing, ef_NoBlock, ef_NoCall, ef_NoFace, ef_NoFate, ef_NoFunction, ef_NoRecord, ef_NoRow, ef_NotNow, ef_Present, ef_Refused, ef_TooMany, ef_Unknown, ef_Unlike, ef_Waits]
def argsE (i : Nat) (v1 v2 : V) : List V := if i = 11 ∨ i = 20 then [] else if i = 17 then [v1, v2] else [v1]
def fieldsE (i : Nat) (v1 v2 : V) : List (Str × V) := errF (argsE i v1 v2) (fsE.getD i []) []
/-- the error number i, of v1 and v2, lies at e -/
def ErrI (a : Ad) (H : Hp) (i : Nat) (v1 v2 : V) (e : Addr) : Prop := ∃ C, (clsA a)[i]? = some C ∧ ExV H e C (fieldsE i v1 v2)
def DueI (H : Hp) (i : Nat) (v1 v2 due : V) : Prop := if i = 11 ∨ i = 20 then due = .non else if i = 17 then ∃ q, due = .ref q ∧ H q = some (.tup [v1, v2]) else due = v1
def PairI (a : Ad) (H : Hp) (v1 v2 : V) (i : Nat) (t : Addr) : Prop := ∃ e due, H t = some (.tup [.ref e, due]) ∧ ErrI a H i v1 v2 e ∧ DueI H i v1 v2 due
theorem get_app' {α : Type} {l : List α} {j : Nat} {x y : α} (h : (l ++ [x])[j]? = some y) : (j = l.length ∧ y = x) ∨ l[j]? = some y := by
  rcases Nat.lt_trichotomy j l.length with lt | eq | gt
  · rw [List.getElem?_append_left lt] at h
    exact .inr h
  · subst eq
    rw [List.getElem?_append_right (Nat.le_refl _), Nat.sub_self] at h
    exact .inl ⟨rfl, (Option.some.inj h).symm⟩
  · rw [List.getElem?_append_right (by omega)] at h
    cases e : j - l.length with
    | zero => omega
    | succ k => rw [e] at h; simp at h
/-- pairs from number n on -/
def Ps (a : Ad) (H : Hp) (v1 v2 : V) (n : Nat) (ts : List Addr) : Prop := ∀ j t, ts[j]? = some t → PairI a H v1 v2 (n + j) t
theorem ErrI.same {a : Ad} {H H' : Hp} {i : Nat} {v1 v2 : V} {e : Addr} (h : ErrI a H i v1 v2 e) (s : Same H H') : ErrI a H' i v1 v2 e := by
  obtain ⟨C, h1, h2⟩ := h
  exact ⟨C, h1, h2.same s⟩
theorem DueI.same {H H' : Hp} {i : Nat} {v1 v2 due : V} (h : DueI H i v1 v2 due) (s : Same H H') : DueI H' i v1 v2 due := by
  unfold DueI at h ⊢
  split
  · rename_i c; rw [if_pos c] at h; exact h
  · rename_i c
    rw [if_neg c] at h
    split
    · rename_i c2
      rw [if_pos c2] at h
      obtain ⟨q, e, hq⟩ := h
      exact ⟨q, e, s _ _ hq⟩
    · rename_i c2; rw [if_neg c2] at h; exact h
theorem PairI.same {a : Ad} {H H' : Hp} {i : Nat} {v1 v2 : V} {t : Addr} (h : PairI a H v1 v2 i t) (s : Same H H') : PairI a H' v1 v2 i t := by
  obtain ⟨e, due, h1, h2, h3⟩ := h
  exact ⟨e, due, s _ _ h1, h2.same s, h3.same s⟩
theorem Ps.same {a : Ad} {H H' : Hp} {v1 v2 : V} {n : Nat} {ts : List Addr} (h : Ps a H v1 v2 n ts) (s : Same H H') : Ps a H' v1 v2 n ts := fun j t e => (h j t e).same s
theorem Ps.nil {a : Ad} {H : Hp} {v1 v2 : V} {n : Nat} : Ps a H v1 v2 n [] := fun j t e => by simp at e
theorem Ps.snoc {a : Ad} {H H' : Hp} {v1 v2 : V} {n i : Nat} {ts : List Addr} {t e : Addr} {due : V} (h : Ps a H v1 v2 n ts) (s : Same H H') (ei : i = n + ts.length) (ht : H' t = some (.tup [.ref e, due])) (he : ErrI a H' i v1 v2 e) (hd : DueI H' i v1 v2 due) : Ps a H' v1 v2 n (ts ++ [t]) := by
  intro j u hj
  rcases get_app' hj with ⟨rfl, rfl⟩ | hj
  · exact ei ▸ ⟨e, due, ht, he, hd⟩
  · exact (h j u hj).same s
def sp_first (a : Ad) : Sp := fun vs H Q _ => ∃ v1 v2, vs = [v1, v2] ∧ ∀ H' q ts, Same H H' → H' q = some (.lst (ts.map V.ref)) → ts.length = 12 → Ps a H' v1 v2 0 ts → Q (.ref q) H'
theorem ok_law_first (T : Txt K mg a d) : FnOk P w K mg base CX0 3 a.law_first d.law_first ["_law_one", "_law_two"] (sp_first a) := by
  refine T.law_first.ok sc_law_first (fun vs H Q E h => ?_) (fun cdv A outer s H vs Q E hr h => ?_)
  · obtain ⟨v1, v2, rfl, _⟩ := h
    rfl
  · obtain ⟨v1, v2, rfl, k⟩ := h
    refine ⟨_, (pss_cons (ps_set (i := 2) sc_law_first.nd rfl (Or.inl rfl) (pe_lst (pa_cons (pe_tup (pa_cons (pe_errV T.e_BadChange T.g_BadChange T.n_super hr (pa_cons (pv 0) pa_nil) (mono := mono_v1)) (pa_cons (pv 0) pa_nil))) (pa_cons (pe_tup (pa_cons (pe_errV T.e_BadLibrary T.g_BadLibrary T.n_super hr (pa_cons (pv 0) pa_nil) (mono := mono_v1)) (pa_cons (pv 0) pa_nil))) (pa_cons (pe_tup (pa_cons (pe_errV T.e_BadMode T.g_BadMode T.n_super hr (pa_cons (pv 0) pa_nil) (mono := mono_v1)) (pa_cons (pv 0) pa_nil))) (pa_cons (pe_tup (pa_cons (pe_errV T.e_BadMove T.g_BadMove T.n_super hr (pa_cons (pv 0) pa_nil) (mono := mono_v1)) (pa_cons (pv 0) pa_nil))) pa_nil))))))
  (pss_cons (ps_set (i := 2) sc_law_first.nd rfl (Or.inl rfl) (pe_op op_cat (pv 2) (pe_lst (pa_cons (pe_tup (pa_cons (pe_errV T.e_BadRecords T.g_BadRecords T.n_super hr (pa_cons (pv 0) pa_nil) (mono := mono_v1)) (pa_cons (pv 0) pa_nil))) (pa_cons (pe_tup (pa_cons (pe_errV T.e_BadWord T.g_BadWord T.n_super hr (pa_cons (pv 0) pa_nil) (mono := mono_v1)) (pa_cons (pv 0) pa_nil))) (pa_cons (pe_tup (pa_cons (pe_errV T.e_Clash T.g_Clash T.n_super hr (pa_cons (pv 0) pa_nil) (mono := mono_v1)) (pa_cons (pv 0) pa_nil))) (pa_cons (pe_tup (pa_cons (pe_errV T.e_Doomed T.g_Doomed T.n_super hr (pa_cons (pv 0) pa_nil) (mono := mono_v1)) (pa_cons (pv 0) pa_nil))) pa_nil)))))))
  (pss_cons (ps_set (i := 2) sc_law_first.nd rfl (Or.inl rfl) (pe_op op_cat (pv 2) (pe_lst (pa_cons (pe_tup (pa_cons (pe_errV T.e_Endless T.g_Endless T.n_super hr (pa_cons (pv 0) pa_nil) (mono := mono_v1)) (pa_cons (pv 0) pa_nil))) (pa_cons (pe_tup (pa_cons (pe_errV T.e_Failed T.g_Failed T.n_super hr (pa_cons (pv 0) pa_nil) (mono := mono_v1)) (pa_cons (pv 0) pa_nil))) (pa_cons (pe_tup (pa_cons (pe_errV T.e_Missing T.g_Missing T.n_super hr (pa_cons (pv 0) pa_nil) (mono := mono_v1)) (pa_cons (pv 0) pa_nil))) (pa_cons (pe_tup (pa_cons (pe_errV0 T.e_NoBlock T.g_NoBlock T.n_super hr) (pa_cons pe_non pa_nil))) pa_nil)))))))
  (pss_one (ps_ret (pv 2)))))), ?_⟩
    try dsimp only [cxOf]
    have P0 : Ps a H v1 v2 0 [] := Ps.nil
    have s0 : Same H H := Same.refl H
    walk_at "rd"
    intro e1 G1 u1 n1 x1
    have x1 : ErrI a G1 0 v1 v2 e1 := ⟨a.BadChange, rfl, x1⟩
    have P1_ := P0.same u1
    have s1_ := s0.trans u1
    walk_at "rd"
    intro t1 ht1
    have z1 := (Same.refl G1).new (o := .tup [.ref e1, v1]) ht1
    have vt1 := upd_same (H := G1) (a := t1) (o := .tup [.ref e1, v1])
    have D1 : DueI (upd G1 t1 (.tup [.ref e1, v1])) 0 v1 v2 (v1) := rfl
    have P1 : Ps a (upd G1 t1 (.tup [.ref e1, v1])) v1 v2 0 [t1] := P1_.snoc (i := 0) z1 rfl vt1 (x1.same z1) D1
    have s1 := s1_.trans z1
    clear D1 x1 P1_ s1_ u1 z1 vt1
    generalize upd G1 t1 (.tup [.ref e1, v1]) = H1 at P1 s1 ⊢
    clear P0
    walk_at "rd"
    intro e2 G2 u2 n2 x2
    have x2 : ErrI a G2 1 v1 v2 e2 := ⟨a.BadLibrary, rfl, x2⟩
    have P2_ := P1.same u2
    have s2_ := s1.trans u2
    walk_at "rd"
    intro t2 ht2
    have z2 := (Same.refl G2).new (o := .tup [.ref e2, v1]) ht2
    have vt2 := upd_same (H := G2) (a := t2) (o := .tup [.ref e2, v1])
    have D2 : DueI (upd G2 t2 (.tup [.ref e2, v1])) 1 v1 v2 (v1) := rfl
    have P2 : Ps a (upd G2 t2 (.tup [.ref e2, v1])) v1 v2 0 [t1, t2] := P2_.snoc (i := 1) z2 rfl vt2 (x2.same z2) D2
    have s2 := s2_.trans z2
    clear D2 x2 P2_ s2_ u2 z2 vt2
    generalize upd G2 t2 (.tup [.ref e2, v1]) = H2 at P2 s2 ⊢
    clear P1 s1
    walk_at "rd"
    intro e3 G3 u3 n3 x3
    have x3 : ErrI a G3 2 v1 v2 e3 := ⟨a.BadMode, rfl, x3⟩
    have P3_ := P2.same u3
    have s3_ := s2.trans u3
    walk_at "rd"
    intro t3 ht3
    have z3 := (Same.refl G3).new (o := .tup [.ref e3, v1]) ht3
    have vt3 := upd_same (H := G3) (a := t3) (o := .tup [.ref e3, v1])
    have D3 : DueI (upd G3 t3 (.tup [.ref e3, v1])) 2 v1 v2 (v1) := rfl
    have P3 : Ps a (upd G3 t3 (.tup [.ref e3, v1])) v1 v2 0 [t1, t2, t3] := P3_.snoc (i := 2) z3 rfl vt3 (x3.same z3) D3
    have s3 := s3_.trans z3
    clear D3 x3 P3_ s3_ u3 z3 vt3
    generalize upd G3 t3 (.tup [.ref e3, v1]) = H3 at P3 s3 ⊢
    clear P2 s2
    walk_at "rd"
    intro e4 G4 u4 n4 x4
    have x4 : ErrI a G4 3 v1 v2 e4 := ⟨a.BadMove, rfl, x4⟩
    have P4_ := P3.same u4
    have s4_ := s3.trans u4
    walk_at "rd"
    intro t4 ht4
    have z4 := (Same.refl G4).new (o := .tup [.ref e4, v1]) ht4
    have vt4 := upd_same (H := G4) (a := t4) (o := .tup [.ref e4, v1])
    have D4 : DueI (upd G4 t4 (.tup [.ref e4, v1])) 3 v1 v2 (v1) := rfl
    have P4 : Ps a (upd G4 t4 (.tup [.ref e4, v1])) v1 v2 0 [t1, t2, t3, t4] := P4_.snoc (i := 3) z4 rfl vt4 (x4.same z4) D4
    have s4 := s4_.trans z4
    clear D4 x4 P4_ s4_ u4 z4 vt4
    generalize upd G4 t4 (.tup [.ref e4, v1]) = H4 at P4 s4 ⊢
    clear P3 s3
    walk_at "rd"
    intro q5 hq5
    have z5 := (Same.refl H4).new (o := .lst [V.ref t1, V.ref t2, V.ref t3, V.ref t4]) hq5
    have l5 := upd_same (H := H4) (a := q5) (o := .lst [V.ref t1, V.ref t2, V.ref t3, V.ref t4])
    have P5 := P4.same z5
    have s5 := s4.trans z5
    generalize upd H4 q5 (.lst [V.ref t1, V.ref t2, V.ref t3, V.ref t4]) = H5 at l5 P5 s5 ⊢
    clear z5 P4 s4
    walk_at "rd"
    intro e6 G6 u6 n6 x6
    have x6 : ErrI a G6 4 v1 v2 e6 := ⟨a.BadRecords, rfl, x6⟩
    replace l5 := u6 _ _ l5
    have P6_ := P5.same u6
    have s6_ := s5.trans u6
    walk_at "rd"
    intro t6 ht6
    have z6 := (Same.refl G6).new (o := .tup [.ref e6, v1]) ht6
    have vt6 := upd_same (H := G6) (a := t6) (o := .tup [.ref e6, v1])
    have D6 : DueI (upd G6 t6 (.tup [.ref e6, v1])) 4 v1 v2 (v1) := rfl
    have P6 : Ps a (upd G6 t6 (.tup [.ref e6, v1])) v1 v2 0 [t1, t2, t3, t4, t6] := P6_.snoc (i := 4) z6 rfl vt6 (x6.same z6) D6
    have s6 := s6_.trans z6
    replace l5 := z6 _ _ l5
    clear D6 x6 P6_ s6_ u6 z6 vt6
    generalize upd G6 t6 (.tup [.ref e6, v1]) = H6 at P6 s6 l5 ⊢
    clear P5 s5
    walk_at "rd"
    intro e7 G7 u7 n7 x7
    have x7 : ErrI a G7 5 v1 v2 e7 := ⟨a.BadWord, rfl, x7⟩
    replace l5 := u7 _ _ l5
    have P7_ := P6.same u7
    have s7_ := s6.trans u7
    walk_at "rd"
    intro t7 ht7
    have z7 := (Same.refl G7).new (o := .tup [.ref e7, v1]) ht7
    have vt7 := upd_same (H := G7) (a := t7) (o := .tup [.ref e7, v1])
    have D7 : DueI (upd G7 t7 (.tup [.ref e7, v1])) 5 v1 v2 (v1) := rfl
    have P7 : Ps a (upd G7 t7 (.tup [.ref e7, v1])) v1 v2 0 [t1, t2, t3, t4, t6, t7] := P7_.snoc (i := 5) z7 rfl vt7 (x7.same z7) D7
    have s7 := s7_.trans z7
    replace l5 := z7 _ _ l5
    clear D7 x7 P7_ s7_ u7 z7 vt7
    generalize upd G7 t7 (.tup [.ref e7, v1]) = H7 at P7 s7 l5 ⊢
    clear P6 s6
    walk_at "rd"
    intro e8 G8 u8 n8 x8
    have x8 : ErrI a G8 6 v1 v2 e8 := ⟨a.Clash, rfl, x8⟩
    replace l5 := u8 _ _ l5
    have P8_ := P7.same u8
    have s8_ := s7.trans u8
    walk_at "rd"
    intro t8 ht8
    have z8 := (Same.refl G8).new (o := .tup [.ref e8, v1]) ht8
    have vt8 := upd_same (H := G8) (a := t8) (o := .tup [.ref e8, v1])
    have D8 : DueI (upd G8 t8 (.tup [.ref e8, v1])) 6 v1 v2 (v1) := rfl
    have P8 : Ps a (upd G8 t8 (.tup [.ref e8, v1])) v1 v2 0 [t1, t2, t3, t4, t6, t7, t8] := P8_.snoc (i := 6) z8 rfl vt8 (x8.same z8) D8
    have s8 := s8_.trans z8
    replace l5 := z8 _ _ l5
    clear D8 x8 P8_ s8_ u8 z8 vt8
    generalize upd G8 t8 (.tup [.ref e8, v1]) = H8 at P8 s8 l5 ⊢
    clear P7 s7
    walk_at "rd"
    intro e9 G9 u9 n9 x9
    have x9 : ErrI a G9 7 v1 v2 e9 := ⟨a.Doomed, rfl, x9⟩
    replace l5 := u9 _ _ l5
    have P9_ := P8.same u9
    have s9_ := s8.trans u9
    walk_at "rd"
    intro t9 ht9
    have z9 := (Same.refl G9).new (o := .tup [.ref e9, v1]) ht9
    have vt9 := upd_same (H := G9) (a := t9) (o := .tup [.ref e9, v1])
    have D9 : DueI (upd G9 t9 (.tup [.ref e9, v1])) 7 v1 v2 (v1) := rfl
    have P9 : Ps a (upd G9 t9 (.tup [.ref e9, v1])) v1 v2 0 [t1, t2, t3, t4, t6, t7, t8, t9] := P9_.snoc (i := 7) z9 rfl vt9 (x9.same z9) D9
    have s9 := s9_.trans z9
    replace l5 := z9 _ _ l5
    clear D9 x9 P9_ s9_ u9 z9 vt9
    generalize upd G9 t9 (.tup [.ref e9, v1]) = H9 at P9 s9 l5 ⊢
    clear P8 s8
    walk_at "rd"
    intro q10 hq10
    have z10 := (Same.refl H9).new (o := .lst [V.ref t6, V.ref t7, V.ref t8, V.ref t9]) hq10
    have l10 := upd_same (H := H9) (a := q10) (o := .lst [V.ref t6, V.ref t7, V.ref t8, V.ref t9])
    have P10 := P9.same z10
    have s10 := s9.trans z10
    replace l5 := z10 _ _ l5
    generalize upd H9 q10 (.lst [V.ref t6, V.ref t7, V.ref t8, V.ref t9]) = H10 at l10 P10 s10 l5 ⊢
    clear z10 P9 s9
    have lc11 : ([V.ref t1, V.ref t2, V.ref t3, V.ref t4] : List V).length + ([V.ref t6, V.ref t7, V.ref t8, V.ref t9] : List V).length ≤ sizeLine := by rw [sizeLine_eq]; show 8 ≤ 16777216; decide
    walk_at "rd"
    intro q11 hq11
    have z11 := (Same.refl H10).new (o := .lst ([V.ref t1, V.ref t2, V.ref t3, V.ref t4] ++ [V.ref t6, V.ref t7, V.ref t8, V.ref t9])) hq11
    have l11 : upd H10 q11 (.lst ([V.ref t1, V.ref t2, V.ref t3, V.ref t4] ++ [V.ref t6, V.ref t7, V.ref t8, V.ref t9])) q11 = some (.lst [V.ref t1, V.ref t2, V.ref t3, V.ref t4, V.ref t6, V.ref t7, V.ref t8, V.ref t9]) := upd_same
    have P11 := P10.same z11
    have s11 := s10.trans z11
    generalize upd H10 q11 (.lst ([V.ref t1, V.ref t2, V.ref t3, V.ref t4] ++ [V.ref t6, V.ref t7, V.ref t8, V.ref t9])) = H11 at l11 P11 s11 ⊢
    clear z11 P10 s10
    walk_at "rd"
    intro e12 G12 u12 n12 x12
    have x12 : ErrI a G12 8 v1 v2 e12 := ⟨a.Endless, rfl, x12⟩
    replace l11 := u12 _ _ l11
    have P12_ := P11.same u12
    have s12_ := s11.trans u12
    walk_at "rd"
    intro t12 ht12
    have z12 := (Same.refl G12).new (o := .tup [.ref e12, v1]) ht12
    have vt12 := upd_same (H := G12) (a := t12) (o := .tup [.ref e12, v1])
    have D12 : DueI (upd G12 t12 (.tup [.ref e12, v1])) 8 v1 v2 (v1) := rfl
    have P12 : Ps a (upd G12 t12 (.tup [.ref e12, v1])) v1 v2 0 [t1, t2, t3, t4, t6, t7, t8, t9, t12] := P12_.snoc (i := 8) z12 rfl vt12 (x12.same z12) D12
    have s12 := s12_.trans z12
    replace l11 := z12 _ _ l11
    clear D12 x12 P12_ s12_ u12 z12 vt12
    generalize upd G12 t12 (.tup [.ref e12, v1]) = H12 at P12 s12 l11 ⊢
    clear P11 s11
    walk_at "rd"
    intro e13 G13 u13 n13 x13
    have x13 : ErrI a G13 9 v1 v2 e13 := ⟨a.Failed, rfl, x13⟩
    replace l11 := u13 _ _ l11
    have P13_ := P12.same u13
    have s13_ := s12.trans u13
    walk_at "rd"
    intro t13 ht13
    have z13 := (Same.refl G13).new (o := .tup [.ref e13, v1]) ht13
    have vt13 := upd_same (H := G13) (a := t13) (o := .tup [.ref e13, v1])
    have D13 : DueI (upd G13 t13 (.tup [.ref e13, v1])) 9 v1 v2 (v1) := rfl
    have P13 : Ps a (upd G13 t13 (.tup [.ref e13, v1])) v1 v2 0 [t1, t2, t3, t4, t6, t7, t8, t9, t12, t13] := P13_.snoc (i := 9) z13 rfl vt13 (x13.same z13) D13
    have s13 := s13_.trans z13
    replace l11 := z13 _ _ l11
    clear D13 x13 P13_ s13_ u13 z13 vt13
    generalize upd G13 t13 (.tup [.ref e13, v1]) = H13 at P13 s13 l11 ⊢
    clear P12 s12
    walk_at "rd"
    intro e14 G14 u14 n14 x14
    have x14 : ErrI a G14 10 v1 v2 e14 := ⟨a.Missing, rfl, x14⟩
    replace l11 := u14 _ _ l11
    have P14_ := P13.same u14
    have s14_ := s13.trans u14
    walk_at "rd"
    intro t14 ht14
    have z14 := (Same.refl G14).new (o := .tup [.ref e14, v1]) ht14
    have vt14 := upd_same (H := G14) (a := t14) (o := .tup [.ref e14, v1])
    have D14 : DueI (upd G14 t14 (.tup [.ref e14, v1])) 10 v1 v2 (v1) := rfl
    have P14 : Ps a (upd G14 t14 (.tup [.ref e14, v1])) v1 v2 0 [t1, t2, t3, t4, t6, t7, t8, t9, t12, t13, t14] := P14_.snoc (i := 10) z14 rfl vt14 (x14.same z14) D14
    have s14 := s14_.trans z14
    replace l11 := z14 _ _ l11
    clear D14 x14 P14_ s14_ u14 z14 vt14
    generalize upd G14 t14 (.tup [.ref e14, v1]) = H14 at P14 s14 l11 ⊢
    clear P13 s13
    walk_at "rd"
    intro e15 G15 u15 n15 x15
    have x15 : ErrI a G15 11 v1 v2 e15 := ⟨a.NoBlock, rfl, x15⟩
    replace l11 := u15 _ _ l11
    have P15_ := P14.same u15
    have s15_ := s14.trans u15
    walk_at "rd"
    intro t15 ht15
    have z15 := (Same.refl G15).new (o := .tup [.ref e15, .non]) ht15
    have vt15 := upd_same (H := G15) (a := t15) (o := .tup [.ref e15, .non])
    have D15 : DueI (upd G15 t15 (.tup [.ref e15, .non])) 11 v1 v2 (.non) := rfl
    have P15 : Ps a (upd G15 t15 (.tup [.ref e15, .non])) v1 v2 0 [t1, t2, t3, t4, t6, t7, t8, t9, t12, t13, t14, t15] := P15_.snoc (i := 11) z15 rfl vt15 (x15.same z15) D15
    have s15 := s15_.trans z15
    replace l11 := z15 _ _ l11
    clear D15 x15 P15_ s15_ u15 z15 vt15
    generalize upd G15 t15 (.tup [.ref e15, .non]) = H15 at P15 s15 l11 ⊢
    clear P14 s14
    walk_at "rd"
    intro q16 hq16
    have z16 := (Same.refl H15).new (o := .lst [V.ref t12, V.ref t13, V.ref t14, V.ref t15]) hq16
    have l16 := upd_same (H := H15) (a := q16) (o := .lst [V.ref t12, V.ref t13, V.ref t14, V.ref t15])
    have P16 := P15.same z16
    have s16 := s15.trans z16
    replace l11 := z16 _ _ l11
    generalize upd H15 q16 (.lst [V.ref t12, V.ref t13, V.ref t14, V.ref t15]) = H16 at l16 P16 s16 l11 ⊢
    clear z16 P15 s15
    have lc17 : ([V.ref t1, V.ref t2, V.ref t3, V.ref t4, V.ref t6, V.ref t7, V.ref t8, V.ref t9] : List V).length + ([V.ref t12, V.ref t13, V.ref t14, V.ref t15] : List V).length ≤ sizeLine := by rw [sizeLine_eq]; show 12 ≤ 16777216; decide
    walk_at "rd"
    intro q17 hq17
    have z17 := (Same.refl H16).new (o := .lst ([V.ref t1, V.ref t2, V.ref t3, V.ref t4, V.ref t6, V.ref t7, V.ref t8, V.ref t9] ++ [V.ref t12, V.ref t13, V.ref t14, V.ref t15])) hq17
    have l17 : upd H16 q17 (.lst ([V.ref t1, V.ref t2, V.ref t3, V.ref t4, V.ref t6, V.ref t7, V.ref t8, V.ref t9] ++ [V.ref t12, V.ref t13, V.ref t14, V.ref t15])) q17 = some (.lst [V.ref t1, V.ref t2, V.ref t3, V.ref t4, V.ref t6, V.ref t7, V.ref t8, V.ref t9, V.ref t12, V.ref t13, V.ref t14, V.ref t15]) := upd_same
    have P17 := P16.same z17
    have s17 := s16.trans z17
    generalize upd H16 q17 (.lst ([V.ref t1, V.ref t2, V.ref t3, V.ref t4, V.ref t6, V.ref t7, V.ref t8, V.ref t9] ++ [V.ref t12, V.ref t13, V.ref t14, V.ref t15])) = H17 at l17 P17 s17 ⊢
    clear z17 P16 s16
    walk_at "rd"
    exact k H17 q17 [t1, t2, t3, t4, t6, t7, t8, t9, t12, t13, t14, t15] s17 l17 rfl P17
def sp_second (a : Ad) : Sp := fun vs H Q _ => ∃ v1 v2, vs = [v1, v2] ∧ ∀ H' q ts, Same H H' → H' q = some (.lst (ts.map V.ref)) → ts.length = 13 → Ps a H' v1 v2 12 ts → Q (.ref q) H'
theorem ok_law_second (T : Txt K mg a d) : FnOk P w K mg base CX0 3 a.law_second d.law_second ["_law_one", "_law_two"] (sp_second a) := by
  refine T.law_second.ok sc_law_second (fun vs H Q E h => ?_) (fun cdv A outer s H vs Q E hr h => ?_)
  · obtain ⟨v1, v2, rfl, _⟩ := h
    rfl
  · obtain ⟨v1, v2, rfl, k⟩ := h
    refine ⟨_, (pss_cons (ps_set (i := 2) sc_law_second.nd rfl (Or.inl rfl) (pe_lst (pa_cons (pe_tup (pa_cons (pe_errV T.e_NoCall T.g_NoCall T.n_super hr (pa_cons (pv 0) pa_nil) (mono := mono_v1)) (pa_cons (pv 0) pa_nil))) (pa_cons (pe_tup (pa_cons (pe_errV T.e_NoFace T.g_NoFace T.n_super hr (pa_cons (pv 0) pa_nil) (mono := mono_v1)) (pa_cons (pv 0) pa_nil))) (pa_cons (pe_tup (pa_cons (pe_errV T.e_NoFate T.g_NoFate T.n_super hr (pa_cons (pv 0) pa_nil) (mono := mono_v1)) (pa_cons (pv 0) pa_nil))) (pa_cons (pe_tup (pa_cons (pe_errV T.e_NoFunction T.g_NoFunction T.n_super hr (pa_cons (pv 0) pa_nil) (mono := mono_v1)) (pa_cons (pv 0) pa_nil))) pa_nil))))))
  (pss_cons (ps_set (i := 2) sc_law_second.nd rfl (Or.inl rfl) (pe_op op_cat (pv 2) (pe_lst (pa_cons (pe_tup (pa_cons (pe_errV T.e_NoRecord T.g_NoRecord T.n_super hr (pa_cons (pv 0) pa_nil) (mono := mono_v1)) (pa_cons (pv 0) pa_nil))) (pa_cons (pe_tup (pa_cons (pe_errV T.e_NoRow T.g_NoRow T.n_super hr (pa_cons (pv 0) (pa_cons (pv 1) pa_nil)) (mono := mono_v2)) (pa_cons (pe_tup (pa_cons (pv 0) (pa_cons (pv 1) pa_nil))) pa_nil))) (pa_cons (pe_tup (pa_cons (pe_errV T.e_NotNow T.g_NotNow T.n_super hr (pa_cons (pv 0) pa_nil) (mono := mono_v1)) (pa_cons (pv 0) pa_nil))) (pa_cons (pe_tup (pa_cons (pe_errV T.e_Present T.g_Present T.n_super hr (pa_cons (pv 0) pa_nil) (mono := mono_v1)) (pa_cons (pv 0) pa_nil))) pa_nil)))))))
  (pss_one (ps_ret (pe_op op_cat (pv 2) (pe_lst (pa_cons (pe_tup (pa_cons (pe_errV0 T.e_Refused T.g_Refused T.n_super hr) (pa_cons pe_non pa_nil))) (pa_cons (pe_tup (pa_cons (pe_errV T.e_TooMany T.g_TooMany T.n_super hr (pa_cons (pv 0) pa_nil) (mono := mono_v1)) (pa_cons (pv 0) pa_nil))) (pa_cons (pe_tup (pa_cons (pe_errV T.e_Unknown T.g_Unknown T.n_super hr (pa_cons (pv 0) pa_nil) (mono := mono_v1)) (pa_cons (pv 0) pa_nil))) (pa_cons (pe_tup (pa_cons (pe_errV T.e_Unlike T.g_Unlike T.n_super hr (pa_cons (pv 0) pa_nil) (mono := mono_v1)) (pa_cons (pv 0) pa_nil))) (pa_cons (pe_tup (pa_cons (pe_errV T.e_Waits T.g_Waits T.n_super hr (pa_cons (pv 0) pa_nil) (mono := mono_v1)) (pa_cons (pv 0) pa_nil))) pa_nil))))))))))), ?_⟩
    try dsimp only [cxOf]
    have P0 : Ps a H v1 v2 12 [] := Ps.nil
    have s0 : Same H H := Same.refl H
    walk_at "rd"
    intro e1 G1 u1 n1 x1
    have x1 : ErrI a G1 12 v1 v2 e1 := ⟨a.NoCall, rfl, x1⟩
    have P1_ := P0.same u1
    have s1_ := s0.trans u1
    walk_at "rd"
    intro t1 ht1
    have z1 := (Same.refl G1).new (o := .tup [.ref e1, v1]) ht1
    have vt1 := upd_same (H := G1) (a := t1) (o := .tup [.ref e1, v1])
    have D1 : DueI (upd G1 t1 (.tup [.ref e1, v1])) 12 v1 v2 (v1) := rfl
    have P1 : Ps a (upd G1 t1 (.tup [.ref e1, v1])) v1 v2 12 [t1] := P1_.snoc (i := 12) z1 rfl vt1 (x1.same z1) D1
    have s1 := s1_.trans z1
    clear D1 x1 P1_ s1_ u1 z1 vt1
    generalize upd G1 t1 (.tup [.ref e1, v1]) = H1 at P1 s1 ⊢
    clear P0
    walk_at "rd"
    intro e2 G2 u2 n2 x2
    have x2 : ErrI a G2 13 v1 v2 e2 := ⟨a.NoFace, rfl, x2⟩
    have P2_ := P1.same u2
    have s2_ := s1.trans u2
    walk_at "rd"
    intro t2 ht2
    have z2 := (Same.refl G2).new (o := .tup [.ref e2, v1]) ht2
    have vt2 := upd_same (H := G2) (a := t2) (o := .tup [.ref e2, v1])
    have D2 : DueI (upd G2 t2 (.tup [.ref e2, v1])) 13 v1 v2 (v1) := rfl
    have P2 : Ps a (upd G2 t2 (.tup [.ref e2, v1])) v1 v2 12 [t1, t2] := P2_.snoc (i := 13) z2 rfl vt2 (x2.same z2) D2
    have s2 := s2_.trans z2
    clear D2 x2 P2_ s2_ u2 z2 vt2
    generalize upd G2 t2 (.tup [.ref e2, v1]) = H2 at P2 s2 ⊢
    clear P1 s1
    walk_at "rd"
    intro e3 G3 u3 n3 x3
    have x3 : ErrI a G3 14 v1 v2 e3 := ⟨a.NoFate, rfl, x3⟩
    have P3_ := P2.same u3
    have s3_ := s2.trans u3
    walk_at "rd"
    intro t3 ht3
    have z3 := (Same.refl G3).new (o := .tup [.ref e3, v1]) ht3
    have vt3 := upd_same (H := G3) (a := t3) (o := .tup [.ref e3, v1])
    have D3 : DueI (upd G3 t3 (.tup [.ref e3, v1])) 14 v1 v2 (v1) := rfl
    have P3 : Ps a (upd G3 t3 (.tup [.ref e3, v1])) v1 v2 12 [t1, t2, t3] := P3_.snoc (i := 14) z3 rfl vt3 (x3.same z3) D3
    have s3 := s3_.trans z3
    clear D3 x3 P3_ s3_ u3 z3 vt3
    generalize upd G3 t3 (.tup [.ref e3, v1]) = H3 at P3 s3 ⊢
    clear P2 s2
    walk_at "rd"
    intro e4 G4 u4 n4 x4
    have x4 : ErrI a G4 15 v1 v2 e4 := ⟨a.NoFunction, rfl, x4⟩
    have P4_ := P3.same u4
    have s4_ := s3.trans u4
    walk_at "rd"
    intro t4 ht4
    have z4 := (Same.refl G4).new (o := .tup [.ref e4, v1]) ht4
    have vt4 := upd_same (H := G4) (a := t4) (o := .tup [.ref e4, v1])
    have D4 : DueI (upd G4 t4 (.tup [.ref e4, v1])) 15 v1 v2 (v1) := rfl
    have P4 : Ps a (upd G4 t4 (.tup [.ref e4, v1])) v1 v2 12 [t1, t2, t3, t4] := P4_.snoc (i := 15) z4 rfl vt4 (x4.same z4) D4
    have s4 := s4_.trans z4
    clear D4 x4 P4_ s4_ u4 z4 vt4
    generalize upd G4 t4 (.tup [.ref e4, v1]) = H4 at P4 s4 ⊢
    clear P3 s3
    walk_at "rd"
    intro q5 hq5
    have z5 := (Same.refl H4).new (o := .lst [V.ref t1, V.ref t2, V.ref t3, V.ref t4]) hq5
    have l5 := upd_same (H := H4) (a := q5) (o := .lst [V.ref t1, V.ref t2, V.ref t3, V.ref t4])
    have P5 := P4.same z5
    have s5 := s4.trans z5
    generalize upd H4 q5 (.lst [V.ref t1, V.ref t2, V.ref t3, V.ref t4]) = H5 at l5 P5 s5 ⊢
    clear z5 P4 s4
    walk_at "rd"
    intro e6 G6 u6 n6 x6
    have x6 : ErrI a G6 16 v1 v2 e6 := ⟨a.NoRecord, rfl, x6⟩
    replace l5 := u6 _ _ l5
    have P6_ := P5.same u6
    have s6_ := s5.trans u6
    walk_at "rd"
    intro t6 ht6
    have z6 := (Same.refl G6).new (o := .tup [.ref e6, v1]) ht6
    have vt6 := upd_same (H := G6) (a := t6) (o := .tup [.ref e6, v1])
    have D6 : DueI (upd G6 t6 (.tup [.ref e6, v1])) 16 v1 v2 (v1) := rfl
    have P6 : Ps a (upd G6 t6 (.tup [.ref e6, v1])) v1 v2 12 [t1, t2, t3, t4, t6] := P6_.snoc (i := 16) z6 rfl vt6 (x6.same z6) D6
    have s6 := s6_.trans z6
    replace l5 := z6 _ _ l5
    clear D6 x6 P6_ s6_ u6 z6 vt6
    generalize upd G6 t6 (.tup [.ref e6, v1]) = H6 at P6 s6 l5 ⊢
    clear P5 s5
    walk_at "rd"
    intro e7 G7 u7 n7 x7
    have x7 : ErrI a G7 17 v1 v2 e7 := ⟨a.NoRow, rfl, x7⟩
    replace l5 := u7 _ _ l5
    have P7_ := P6.same u7
    have s7_ := s6.trans u7
    walk_at "rd"
    intro d7 hd7
    have w7 := (Same.refl G7).new (o := .tup [v1, v2]) hd7
    have y7 := upd_same (H := G7) (a := d7) (o := .tup [v1, v2])
    replace x7 := x7.same w7
    replace P7_ := P7_.same w7
    replace s7_ := s7_.trans w7
    replace l5 := w7 _ _ l5
    generalize upd G7 d7 (.tup [v1, v2]) = F7 at w7 y7 x7 P7_ s7_ l5 ⊢
    walk_at "rd"
    intro t7 ht7
    have z7 := (Same.refl F7).new (o := .tup [.ref e7, .ref d7]) ht7
    have vt7 := upd_same (H := F7) (a := t7) (o := .tup [.ref e7, .ref d7])
    have D7 : DueI (upd F7 t7 (.tup [.ref e7, .ref d7])) 17 v1 v2 (.ref d7) := ⟨d7, rfl, z7 _ _ y7⟩
    have P7 : Ps a (upd F7 t7 (.tup [.ref e7, .ref d7])) v1 v2 12 [t1, t2, t3, t4, t6, t7] := P7_.snoc (i := 17) z7 rfl vt7 (x7.same z7) D7
    have s7 := s7_.trans z7
    replace l5 := z7 _ _ l5
    clear D7 x7 P7_ s7_ u7 z7 vt7
    generalize upd F7 t7 (.tup [.ref e7, .ref d7]) = H7 at P7 s7 l5 ⊢
    clear P6 s6
    walk_at "rd"
    intro e8 G8 u8 n8 x8
    have x8 : ErrI a G8 18 v1 v2 e8 := ⟨a.NotNow, rfl, x8⟩
    replace l5 := u8 _ _ l5
    have P8_ := P7.same u8
    have s8_ := s7.trans u8
    walk_at "rd"
    intro t8 ht8
    have z8 := (Same.refl G8).new (o := .tup [.ref e8, v1]) ht8
    have vt8 := upd_same (H := G8) (a := t8) (o := .tup [.ref e8, v1])
    have D8 : DueI (upd G8 t8 (.tup [.ref e8, v1])) 18 v1 v2 (v1) := rfl
    have P8 : Ps a (upd G8 t8 (.tup [.ref e8, v1])) v1 v2 12 [t1, t2, t3, t4, t6, t7, t8] := P8_.snoc (i := 18) z8 rfl vt8 (x8.same z8) D8
    have s8 := s8_.trans z8
    replace l5 := z8 _ _ l5
    clear D8 x8 P8_ s8_ u8 z8 vt8
    generalize upd G8 t8 (.tup [.ref e8, v1]) = H8 at P8 s8 l5 ⊢
    clear P7 s7
    walk_at "rd"
    intro e9 G9 u9 n9 x9
    have x9 : ErrI a G9 19 v1 v2 e9 := ⟨a.Present, rfl, x9⟩
    replace l5 := u9 _ _ l5
    have P9_ := P8.same u9
    have s9_ := s8.trans u9
    walk_at "rd"
    intro t9 ht9
    have z9 := (Same.refl G9).new (o := .tup [.ref e9, v1]) ht9
    have vt9 := upd_same (H := G9) (a := t9) (o := .tup [.ref e9, v1])
    have D9 : DueI (upd G9 t9 (.tup [.ref e9, v1])) 19 v1 v2 (v1) := rfl
    have P9 : Ps a (upd G9 t9 (.tup [.ref e9, v1])) v1 v2 12 [t1, t2, t3, t4, t6, t7, t8, t9] := P9_.snoc (i := 19) z9 rfl vt9 (x9.same z9) D9
    have s9 := s9_.trans z9
    replace l5 := z9 _ _ l5
    clear D9 x9 P9_ s9_ u9 z9 vt9
    generalize upd G9 t9 (.tup [.ref e9, v1]) = H9 at P9 s9 l5 ⊢
    clear P8 s8
    walk_at "rd"
    intro q10 hq10
    have z10 := (Same.refl H9).new (o := .lst [V.ref t6, V.ref t7, V.ref t8, V.ref t9]) hq10
    have l10 := upd_same (H := H9) (a := q10) (o := .lst [V.ref t6, V.ref t7, V.ref t8, V.ref t9])
    have P10 := P9.same z10
    have s10 := s9.trans z10
    replace l5 := z10 _ _ l5
    generalize upd H9 q10 (.lst [V.ref t6, V.ref t7, V.ref t8, V.ref t9]) = H10 at l10 P10 s10 l5 ⊢
    clear z10 P9 s9
    have lc11 : ([V.ref t1, V.ref t2, V.ref t3, V.ref t4] : List V).length + ([V.ref t6, V.ref t7, V.ref t8, V.ref t9] : List V).length ≤ sizeLine := by rw [sizeLine_eq]; show 8 ≤ 16777216; decide
    walk_at "rd"
    intro q11 hq11
    have z11 := (Same.refl H10).new (o := .lst ([V.ref t1, V.ref t2, V.ref t3, V.ref t4] ++ [V.ref t6, V.ref t7, V.ref t8, V.ref t9])) hq11
    have l11 : upd H10 q11 (.lst ([V.ref t1, V.ref t2, V.ref t3, V.ref t4] ++ [V.ref t6, V.ref t7, V.ref t8, V.ref t9])) q11 = some (.lst [V.ref t1, V.ref t2, V.ref t3, V.ref t4, V.ref t6, V.ref t7, V.ref t8, V.ref t9]) := upd_same
    have P11 := P10.same z11
    have s11 := s10.trans z11
    generalize upd H10 q11 (.lst ([V.ref t1, V.ref t2, V.ref t3, V.ref t4] ++ [V.ref t6, V.ref t7, V.ref t8, V.ref t9])) = H11 at l11 P11 s11 ⊢
    clear z11 P10 s10
    walk_at "rd"
    intro e12 G12 u12 n12 x12
    have x12 : ErrI a G12 20 v1 v2 e12 := ⟨a.Refused, rfl, x12⟩
    replace l11 := u12 _ _ l11
    have P12_ := P11.same u12
    have s12_ := s11.trans u12
    walk_at "rd"
    intro t12 ht12
    have z12 := (Same.refl G12).new (o := .tup [.ref e12, .non]) ht12
    have vt12 := upd_same (H := G12) (a := t12) (o := .tup [.ref e12, .non])
    have D12 : DueI (upd G12 t12 (.tup [.ref e12, .non])) 20 v1 v2 (.non) := rfl
    have P12 : Ps a (upd G12 t12 (.tup [.ref e12, .non])) v1 v2 12 [t1, t2, t3, t4, t6, t7, t8, t9, t12] := P12_.snoc (i := 20) z12 rfl vt12 (x12.same z12) D12
    have s12 := s12_.trans z12
    replace l11 := z12 _ _ l11
    clear D12 x12 P12_ s12_ u12 z12 vt12
    generalize upd G12 t12 (.tup [.ref e12, .non]) = H12 at P12 s12 l11 ⊢
    clear P11 s11
    walk_at "rd"
    intro e13 G13 u13 n13 x13
    have x13 : ErrI a G13 21 v1 v2 e13 := ⟨a.TooMany, rfl, x13⟩
    replace l11 := u13 _ _ l11
    have P13_ := P12.same u13
    have s13_ := s12.trans u13
    walk_at "rd"
    intro t13 ht13
    have z13 := (Same.refl G13).new (o := .tup [.ref e13, v1]) ht13
    have vt13 := upd_same (H := G13) (a := t13) (o := .tup [.ref e13, v1])
    have D13 : DueI (upd G13 t13 (.tup [.ref e13, v1])) 21 v1 v2 (v1) := rfl
    have P13 : Ps a (upd G13 t13 (.tup [.ref e13, v1])) v1 v2 12 [t1, t2, t3, t4, t6, t7, t8, t9, t12, t13] := P13_.snoc (i := 21) z13 rfl vt13 (x13.same z13) D13
    have s13 := s13_.trans z13
    replace l11 := z13 _ _ l11
    clear D13 x13 P13_ s13_ u13 z13 vt13
    generalize upd G13 t13 (.tup [.ref e13, v1]) = H13 at P13 s13 l11 ⊢
    clear P12 s12
    walk_at "rd"
    intro e14 G14 u14 n14 x14
    have x14 : ErrI a G14 22 v1 v2 e14 := ⟨a.Unknown, rfl, x14⟩
    replace l11 := u14 _ _ l11
    have P14_ := P13.same u14
    have s14_ := s13.trans u14
    walk_at "rd"
    intro t14 ht14
    have z14 := (Same.refl G14).new (o := .tup [.ref e14, v1]) ht14
    have vt14 := upd_same (H := G14) (a := t14) (o := .tup [.ref e14, v1])
    have D14 : DueI (upd G14 t14 (.tup [.ref e14, v1])) 22 v1 v2 (v1) := rfl
    have P14 : Ps a (upd G14 t14 (.tup [.ref e14, v1])) v1 v2 12 [t1, t2, t3, t4, t6, t7, t8, t9, t12, t13, t14] := P14_.snoc (i := 22) z14 rfl vt14 (x14.same z14) D14
    have s14 := s14_.trans z14
    replace l11 := z14 _ _ l11
    clear D14 x14 P14_ s14_ u14 z14 vt14
    generalize upd G14 t14 (.tup [.ref e14, v1]) = H14 at P14 s14 l11 ⊢
    clear P13 s13
    walk_at "rd"
    intro e15 G15 u15 n15 x15
    have x15 : ErrI a G15 23 v1 v2 e15 := ⟨a.Unlike, rfl, x15⟩
    replace l11 := u15 _ _ l11
    have P15_ := P14.same u15
    have s15_ := s14.trans u15
    walk_at "rd"
    intro t15 ht15
    have z15 := (Same.refl G15).new (o := .tup [.ref e15, v1]) ht15
    have vt15 := upd_same (H := G15) (a := t15) (o := .tup [.ref e15, v1])
    have D15 : DueI (upd G15 t15 (.tup [.ref e15, v1])) 23 v1 v2 (v1) := rfl
    have P15 : Ps a (upd G15 t15 (.tup [.ref e15, v1])) v1 v2 12 [t1, t2, t3, t4, t6, t7, t8, t9, t12, t13, t14, t15] := P15_.snoc (i := 23) z15 rfl vt15 (x15.same z15) D15
    have s15 := s15_.trans z15
    replace l11 := z15 _ _ l11
    clear D15 x15 P15_ s15_ u15 z15 vt15
    generalize upd G15 t15 (.tup [.ref e15, v1]) = H15 at P15 s15 l11 ⊢
    clear P14 s14
    walk_at "rd"
    intro e16 G16 u16 n16 x16
    have x16 : ErrI a G16 24 v1 v2 e16 := ⟨a.Waits, rfl, x16⟩
    replace l11 := u16 _ _ l11
    have P16_ := P15.same u16
    have s16_ := s15.trans u16
    walk_at "rd"
    intro t16 ht16
    have z16 := (Same.refl G16).new (o := .tup [.ref e16, v1]) ht16
    have vt16 := upd_same (H := G16) (a := t16) (o := .tup [.ref e16, v1])
    have D16 : DueI (upd G16 t16 (.tup [.ref e16, v1])) 24 v1 v2 (v1) := rfl
    have P16 : Ps a (upd G16 t16 (.tup [.ref e16, v1])) v1 v2 12 [t1, t2, t3, t4, t6, t7, t8, t9, t12, t13, t14, t15, t16] := P16_.snoc (i := 24) z16 rfl vt16 (x16.same z16) D16
    have s16 := s16_.trans z16
    replace l11 := z16 _ _ l11
    clear D16 x16 P16_ s16_ u16 z16 vt16
    generalize upd G16 t16 (.tup [.ref e16, v1]) = H16 at P16 s16 l11 ⊢
    clear P15 s15
    walk_at "rd"
    intro q17 hq17
    have z17 := (Same.refl H16).new (o := .lst [V.ref t12, V.ref t13, V.ref t14, V.ref t15, V.ref t16]) hq17
    have l17 := upd_same (H := H16) (a := q17) (o := .lst [V.ref t12, V.ref t13, V.ref t14, V.ref t15, V.ref t16])
    have P17 := P16.same z17
    have s17 := s16.trans z17
    replace l11 := z17 _ _ l11
    generalize upd H16 q17 (.lst [V.ref t12, V.ref t13, V.ref t14, V.ref t15, V.ref t16]) = H17 at l17 P17 s17 l11 ⊢
    clear z17 P16 s16
    have lc18 : ([V.ref t1, V.ref t2, V.ref t3, V.ref t4, V.ref t6, V.ref t7, V.ref t8, V.ref t9] : List V).length + ([V.ref t12, V.ref t13, V.ref t14, V.ref t15, V.ref t16] : List V).length ≤ sizeLine := by rw [sizeLine_eq]; show 13 ≤ 16777216; decide
    walk_at "rd"
    intro q18 hq18
    have z18 := (Same.refl H17).new (o := .lst ([V.ref t1, V.ref t2, V.ref t3, V.ref t4, V.ref t6, V.ref t7, V.ref t8, V.ref t9] ++ [V.ref t12, V.ref t13, V.ref t14, V.ref t15, V.ref t16])) hq18
    have l18 : upd H17 q18 (.lst ([V.ref t1, V.ref t2, V.ref t3, V.ref t4, V.ref t6, V.ref t7, V.ref t8, V.ref t9] ++ [V.ref t12, V.ref t13, V.ref t14, V.ref t15, V.ref t16])) q18 = some (.lst [V.ref t1, V.ref t2, V.ref t3, V.ref t4, V.ref t6, V.ref t7, V.ref t8, V.ref t9, V.ref t12, V.ref t13, V.ref t14, V.ref t15, V.ref t16]) := upd_same
    have P18 := P17.same z18
    have s18 := s17.trans z18
    generalize upd H17 q18 (.lst ([V.ref t1, V.ref t2, V.ref t3, V.ref t4, V.ref t6, V.ref t7, V.ref t8, V.ref t9] ++ [V.ref t12, V.ref t13, V.ref t14, V.ref t15, V.ref t16])) = H18 at l18 P18 s18 ⊢
    clear z18 P17 s17
    walk_at "rd"
    exact k H18 q18 [t1, t2, t3, t4, t6, t7, t8, t9, t12, t13, t14, t15, t16] s18 l18 rfl P18
/-! ### k88: classes and fields -/
theorem exk_at (T : Txt K mg a d) {i : Nat} {C : Addr} (h : (clsA a)[i]? = some C) (g : PySem.W.findIn K (.ref C) "__getattribute__" = some (some (.builtin "BaseException.__getattribute__")) ∧ PySem.W.findIn K (.ref C) "__getattr__" = some none ∧ PySem.W.subIn K (.ref C) (.type "BaseException") = some true ∧ PySem.W.hasDictIn K C = true) : ExK K C := by
  have m := List.mem_of_getElem? h
  have h1 := List.all_eq_true.mp T.kx C m
  rw [Bool.and_eq_true, decide_eq_true_eq, decide_eq_true_eq] at h1
  exact ⟨g.1, g.2.1, g.2.2.1, g.2.2.2, h1.1, T.ks, T.kt, h1.2⟩
theorem err_of {st : Stmt} {P' : Program} {q : Str} {ps : List Str} {fs : List (Str × Sum Nat Str)} {C fI : Addr} (E : ErrC P' K C fI st q ps fs) : PySem.W.findIn K (.ref C) "__getattribute__" = some (some (.builtin "BaseException.__getattribute__")) ∧ PySem.W.findIn K (.ref C) "__getattr__" = some none ∧ PySem.W.subIn K (.ref C) (.type "BaseException") = some true ∧ PySem.W.hasDictIn K C = true := ⟨E.ga, E.gg, E.exC, E.hdC⟩
theorem exk_all (T : Txt K mg a d) {i : Nat} {C : Addr} (h : (clsA a)[i]? = some C) : ExK K C := by
  refine exk_at T h ?_
  have m := List.mem_of_getElem? h
  simp only [clsA, List.mem_cons, List.not_mem_nil, or_false] at m
  rcases m with rfl | rfl | rfl | rfl | rfl | rfl | rfl | rfl | rfl | rfl | rfl | rfl | rfl | rfl | rfl | rfl | rfl | rfl | rfl | rfl | rfl | rfl | rfl | rfl | rfl
  · exact err_of T.e_BadChange
  · exact err_of T.e_BadLibrary
  · exact err_of T.e_BadMode
  · exact err_of T.e_BadMove
  · exact err_of T.e_BadRecords
  · exact err_of T.e_BadWord
  · exact err_of T.e_Clash
  · exact err_of T.e_Doomed
  · exact err_of T.e_Endless
  · exact err_of T.e_Failed
  · exact err_of T.e_Missing
  · exact err_of T.e_NoBlock
  · exact err_of T.e_NoCall
  · exact err_of T.e_NoFace
  · exact err_of T.e_NoFate
  · exact err_of T.e_NoFunction
  · exact err_of T.e_NoRecord
  · exact err_of T.e_NoRow
  · exact err_of T.e_NotNow
  · exact err_of T.e_Present
  · exact err_of T.e_Refused
  · exact err_of T.e_TooMany
  · exact err_of T.e_Unknown
  · exact err_of T.e_Unlike
  · exact err_of T.e_Waits
theorem clsA_lt {i : Nat} {C : Addr} (h : (clsA a)[i]? = some C) : i < 25 := (List.getElem?_eq_some_iff.mp h).1
def spCls (a : Ad) : Sp := fun vs H Q _ => ∃ p i C fs, vs = [.ref p] ∧ (clsA a)[i]? = some C ∧ ExV H p C fs ∧ ∀ H' q, Same H H' → H' q = some (.lst ((List.range 25).map fun j => V.bl (decide (i = j)))) → Q (.ref q) H'
theorem ok_law_classes (T : Txt K mg a d) : FnOk P w K mg base CX0 2 a.law_classes d.law_classes ["_law_e"] (spCls a) := by
  refine T.law_classes.ok sc_law_classes (fun vs H Q E h => ?_) (fun cdv A outer s H vs Q E hr h => ?_)
  · obtain ⟨p, i, C, fs, rfl, _⟩ := h
    rfl
  · obtain ⟨p, i, C, fs, rfl, hi, x, k⟩ := h
    have ek := exk_all T hi
    have r0 : ∀ u, RelV (V.ref a.BadChange) u → u = Value.ref a.BadChange := fun u h => h
    have k0 : PySem.W.kitOne K (.ref C) (.ref a.BadChange) = some (decide (i = 0)) := kitAll_at T.km hi (show (clsA a)[0]? = some a.BadChange from rfl)
    have r1 : ∀ u, RelV (V.ref a.BadLibrary) u → u = Value.ref a.BadLibrary := fun u h => h
    have k1 : PySem.W.kitOne K (.ref C) (.ref a.BadLibrary) = some (decide (i = 1)) := kitAll_at T.km hi (show (clsA a)[1]? = some a.BadLibrary from rfl)
    have r2 : ∀ u, RelV (V.ref a.BadMode) u → u = Value.ref a.BadMode := fun u h => h
    have k2 : PySem.W.kitOne K (.ref C) (.ref a.BadMode) = some (decide (i = 2)) := kitAll_at T.km hi (show (clsA a)[2]? = some a.BadMode from rfl)
    have r3 : ∀ u, RelV (V.ref a.BadMove) u → u = Value.ref a.BadMove := fun u h => h
    have k3 : PySem.W.kitOne K (.ref C) (.ref a.BadMove) = some (decide (i = 3)) := kitAll_at T.km hi (show (clsA a)[3]? = some a.BadMove from rfl)
    have r4 : ∀ u, RelV (V.ref a.BadRecords) u → u = Value.ref a.BadRecords := fun u h => h
    have k4 : PySem.W.kitOne K (.ref C) (.ref a.BadRecords) = some (decide (i = 4)) := kitAll_at T.km hi (show (clsA a)[4]? = some a.BadRecords from rfl)
    have r5 : ∀ u, RelV (V.ref a.BadWord) u → u = Value.ref a.BadWord := fun u h => h
    have k5 : PySem.W.kitOne K (.ref C) (.ref a.BadWord) = some (decide (i = 5)) := kitAll_at T.km hi (show (clsA a)[5]? = some a.BadWord from rfl)
    have r6 : ∀ u, RelV (V.ref a.Clash) u → u = Value.ref a.Clash := fun u h => h
    have k6 : PySem.W.kitOne K (.ref C) (.ref a.Clash) = some (decide (i = 6)) := kitAll_at T.km hi (show (clsA a)[6]? = some a.Clash from rfl)
    have r7 : ∀ u, RelV (V.ref a.Doomed) u → u = Value.ref a.Doomed := fun u h => h
    have k7 : PySem.W.kitOne K (.ref C) (.ref a.Doomed) = some (decide (i = 7)) := kitAll_at T.km hi (show (clsA a)[7]? = some a.Doomed from rfl)
    have r8 : ∀ u, RelV (V.ref a.Endless) u → u = Value.ref a.Endless := fun u h => h
    have k8 : PySem.W.kitOne K (.ref C) (.ref a.Endless) = some (decide (i = 8)) := kitAll_at T.km hi (show (clsA a)[8]? = some a.Endless from rfl)
    have r9 : ∀ u, RelV (V.ref a.Failed) u → u = Value.ref a.Failed := fun u h => h
    have k9 : PySem.W.kitOne K (.ref C) (.ref a.Failed) = some (decide (i = 9)) := kitAll_at T.km hi (show (clsA a)[9]? = some a.Failed from rfl)
    have r10 : ∀ u, RelV (V.ref a.Missing) u → u = Value.ref a.Missing := fun u h => h
    have k10 : PySem.W.kitOne K (.ref C) (.ref a.Missing) = some (decide (i = 10)) := kitAll_at T.km hi (show (clsA a)[10]? = some a.Missing from rfl)
    have r11 : ∀ u, RelV (V.ref a.NoBlock) u → u = Value.ref a.NoBlock := fun u h => h
    have k11 : PySem.W.kitOne K (.ref C) (.ref a.NoBlock) = some (decide (i = 11)) := kitAll_at T.km hi (show (clsA a)[11]? = some a.NoBlock from rfl)
    have r12 : ∀ u, RelV (V.ref a.NoCall) u → u = Value.ref a.NoCall := fun u h => h
    have k12 : PySem.W.kitOne K (.ref C) (.ref a.NoCall) = some (decide (i = 12)) := kitAll_at T.km hi (show (clsA a)[12]? = some a.NoCall from rfl)
    have r13 : ∀ u, RelV (V.ref a.NoFace) u → u = Value.ref a.NoFace := fun u h => h
    have k13 : PySem.W.kitOne K (.ref C) (.ref a.NoFace) = some (decide (i = 13)) := kitAll_at T.km hi (show (clsA a)[13]? = some a.NoFace from rfl)
    have r14 : ∀ u, RelV (V.ref a.NoFate) u → u = Value.ref a.NoFate := fun u h => h
    have k14 : PySem.W.kitOne K (.ref C) (.ref a.NoFate) = some (decide (i = 14)) := kitAll_at T.km hi (show (clsA a)[14]? = some a.NoFate from rfl)
    have r15 : ∀ u, RelV (V.ref a.NoFunction) u → u = Value.ref a.NoFunction := fun u h => h
    have k15 : PySem.W.kitOne K (.ref C) (.ref a.NoFunction) = some (decide (i = 15)) := kitAll_at T.km hi (show (clsA a)[15]? = some a.NoFunction from rfl)
    have r16 : ∀ u, RelV (V.ref a.NoRecord) u → u = Value.ref a.NoRecord := fun u h => h
    have k16 : PySem.W.kitOne K (.ref C) (.ref a.NoRecord) = some (decide (i = 16)) := kitAll_at T.km hi (show (clsA a)[16]? = some a.NoRecord from rfl)
    have r17 : ∀ u, RelV (V.ref a.NoRow) u → u = Value.ref a.NoRow := fun u h => h
    have k17 : PySem.W.kitOne K (.ref C) (.ref a.NoRow) = some (decide (i = 17)) := kitAll_at T.km hi (show (clsA a)[17]? = some a.NoRow from rfl)
    have r18 : ∀ u, RelV (V.ref a.NotNow) u → u = Value.ref a.NotNow := fun u h => h
    have k18 : PySem.W.kitOne K (.ref C) (.ref a.NotNow) = some (decide (i = 18)) := kitAll_at T.km hi (show (clsA a)[18]? = some a.NotNow from rfl)
    have r19 : ∀ u, RelV (V.ref a.Present) u → u = Value.ref a.Present := fun u h => h
    have k19 : PySem.W.kitOne K (.ref C) (.ref a.Present) = some (decide (i = 19)) := kitAll_at T.km hi (show (clsA a)[19]? = some a.Present from rfl)
    have r20 : ∀ u, RelV (V.ref a.Refused) u → u = Value.ref a.Refused := fun u h => h
    have k20 : PySem.W.kitOne K (.ref C) (.ref a.Refused) = some (decide (i = 20)) := kitAll_at T.km hi (show (clsA a)[20]? = some a.Refused from rfl)
    have r21 : ∀ u, RelV (V.ref a.TooMany) u → u = Value.ref a.TooMany := fun u h => h
    have k21 : PySem.W.kitOne K (.ref C) (.ref a.TooMany) = some (decide (i = 21)) := kitAll_at T.km hi (show (clsA a)[21]? = some a.TooMany from rfl)
    have r22 : ∀ u, RelV (V.ref a.Unknown) u → u = Value.ref a.Unknown := fun u h => h
    have k22 : PySem.W.kitOne K (.ref C) (.ref a.Unknown) = some (decide (i = 22)) := kitAll_at T.km hi (show (clsA a)[22]? = some a.Unknown from rfl)
    have r23 : ∀ u, RelV (V.ref a.Unlike) u → u = Value.ref a.Unlike := fun u h => h
    have k23 : PySem.W.kitOne K (.ref C) (.ref a.Unlike) = some (decide (i = 23)) := kitAll_at T.km hi (show (clsA a)[23]? = some a.Unlike from rfl)
    have r24 : ∀ u, RelV (V.ref a.Waits) u → u = Value.ref a.Waits := fun u h => h
    have k24 : PySem.W.kitOne K (.ref C) (.ref a.Waits) = some (decide (i = 24)) := kitAll_at T.km hi (show (clsA a)[24]? = some a.Waits from rfl)
    refine ⟨_, (pss_cons (ps_set (i := 1) sc_law_classes.nd rfl (Or.inl rfl) (pe_lst (pa_cons (pe_callB call_isV (by rfl) T.n_isinstance (by decide +kernel) (pa_cons (pv 0) (pa_cons (pe_glob (v := .ref a.BadChange) (by rfl) T.g_BadChange rfl) pa_nil))) (pa_cons (pe_callB call_isV (by rfl) T.n_isinstance (by decide +kernel) (pa_cons (pv 0) (pa_cons (pe_glob (v := .ref a.BadLibrary) (by rfl) T.g_BadLibrary rfl) pa_nil))) (pa_cons (pe_callB call_isV (by rfl) T.n_isinstance (by decide +kernel) (pa_cons (pv 0) (pa_cons (pe_glob (v := .ref a.BadMode) (by rfl) T.g_BadMode rfl) pa_nil))) (pa_cons (pe_callB call_isV (by rfl) T.n_isinstance (by decide +kernel) (pa_cons (pv 0) (pa_cons (pe_glob (v := .ref a.BadMove) (by rfl) T.g_BadMove rfl) pa_nil))) pa_nil))))))
  (pss_cons (ps_set (i := 1) sc_law_classes.nd rfl (Or.inl rfl) (pe_op op_cat (pv 1) (pe_lst (pa_cons (pe_callB call_isV (by rfl) T.n_isinstance (by decide +kernel) (pa_cons (pv 0) (pa_cons (pe_glob (v := .ref a.BadRecords) (by rfl) T.g_BadRecords rfl) pa_nil))) (pa_cons (pe_callB call_isV (by rfl) T.n_isinstance (by decide +kernel) (pa_cons (pv 0) (pa_cons (pe_glob (v := .ref a.BadWord) (by rfl) T.g_BadWord rfl) pa_nil))) (pa_cons (pe_callB call_isV (by rfl) T.n_isinstance (by decide +kernel) (pa_cons (pv 0) (pa_cons (pe_glob (v := .ref a.Clash) (by rfl) T.g_Clash rfl) pa_nil))) (pa_cons (pe_callB call_isV (by rfl) T.n_isinstance (by decide +kernel) (pa_cons (pv 0) (pa_cons (pe_glob (v := .ref a.Doomed) (by rfl) T.g_Doomed rfl) pa_nil))) pa_nil)))))))
  (pss_cons (ps_set (i := 1) sc_law_classes.nd rfl (Or.inl rfl) (pe_op op_cat (pv 1) (pe_lst (pa_cons (pe_callB call_isV (by rfl) T.n_isinstance (by decide +kernel) (pa_cons (pv 0) (pa_cons (pe_glob (v := .ref a.Endless) (by rfl) T.g_Endless rfl) pa_nil))) (pa_cons (pe_callB call_isV (by rfl) T.n_isinstance (by decide +kernel) (pa_cons (pv 0) (pa_cons (pe_glob (v := .ref a.Failed) (by rfl) T.g_Failed rfl) pa_nil))) (pa_cons (pe_callB call_isV (by rfl) T.n_isinstance (by decide +kernel) (pa_cons (pv 0) (pa_cons (pe_glob (v := .ref a.Missing) (by rfl) T.g_Missing rfl) pa_nil))) (pa_cons (pe_callB call_isV (by rfl) T.n_isinstance (by decide +kernel) (pa_cons (pv 0) (pa_cons (pe_glob (v := .ref a.NoBlock) (by rfl) T.g_NoBlock rfl) pa_nil))) pa_nil)))))))
  (pss_cons (ps_set (i := 1) sc_law_classes.nd rfl (Or.inl rfl) (pe_op op_cat (pv 1) (pe_lst (pa_cons (pe_callB call_isV (by rfl) T.n_isinstance (by decide +kernel) (pa_cons (pv 0) (pa_cons (pe_glob (v := .ref a.NoCall) (by rfl) T.g_NoCall rfl) pa_nil))) (pa_cons (pe_callB call_isV (by rfl) T.n_isinstance (by decide +kernel) (pa_cons (pv 0) (pa_cons (pe_glob (v := .ref a.NoFace) (by rfl) T.g_NoFace rfl) pa_nil))) (pa_cons (pe_callB call_isV (by rfl) T.n_isinstance (by decide +kernel) (pa_cons (pv 0) (pa_cons (pe_glob (v := .ref a.NoFate) (by rfl) T.g_NoFate rfl) pa_nil))) (pa_cons (pe_callB call_isV (by rfl) T.n_isinstance (by decide +kernel) (pa_cons (pv 0) (pa_cons (pe_glob (v := .ref a.NoFunction) (by rfl) T.g_NoFunction rfl) pa_nil))) pa_nil)))))))
  (pss_cons (ps_set (i := 1) sc_law_classes.nd rfl (Or.inl rfl) (pe_op op_cat (pv 1) (pe_lst (pa_cons (pe_callB call_isV (by rfl) T.n_isinstance (by decide +kernel) (pa_cons (pv 0) (pa_cons (pe_glob (v := .ref a.NoRecord) (by rfl) T.g_NoRecord rfl) pa_nil))) (pa_cons (pe_callB call_isV (by rfl) T.n_isinstance (by decide +kernel) (pa_cons (pv 0) (pa_cons (pe_glob (v := .ref a.NoRow) (by rfl) T.g_NoRow rfl) pa_nil))) (pa_cons (pe_callB call_isV (by rfl) T.n_isinstance (by decide +kernel) (pa_cons (pv 0) (pa_cons (pe_glob (v := .ref a.NotNow) (by rfl) T.g_NotNow rfl) pa_nil))) (pa_cons (pe_callB call_isV (by rfl) T.n_isinstance (by decide +kernel) (pa_cons (pv 0) (pa_cons (pe_glob (v := .ref a.Present) (by rfl) T.g_Present rfl) pa_nil))) pa_nil)))))))
  (pss_cons (ps_set (i := 1) sc_law_classes.nd rfl (Or.inl rfl) (pe_op op_cat (pv 1) (pe_lst (pa_cons (pe_callB call_isV (by rfl) T.n_isinstance (by decide +kernel) (pa_cons (pv 0) (pa_cons (pe_glob (v := .ref a.Refused) (by rfl) T.g_Refused rfl) pa_nil))) (pa_cons (pe_callB call_isV (by rfl) T.n_isinstance (by decide +kernel) (pa_cons (pv 0) (pa_cons (pe_glob (v := .ref a.TooMany) (by rfl) T.g_TooMany rfl) pa_nil))) (pa_cons (pe_callB call_isV (by rfl) T.n_isinstance (by decide +kernel) (pa_cons (pv 0) (pa_cons (pe_glob (v := .ref a.Unknown) (by rfl) T.g_Unknown rfl) pa_nil))) (pa_cons (pe_callB call_isV (by rfl) T.n_isinstance (by decide +kernel) (pa_cons (pv 0) (pa_cons (pe_glob (v := .ref a.Unlike) (by rfl) T.g_Unlike rfl) pa_nil))) pa_nil)))))))
  (pss_one (ps_ret (pe_op op_cat (pv 1) (pe_lst (pa_cons (pe_callB call_isV (by rfl) T.n_isinstance (by decide +kernel) (pa_cons (pv 0) (pa_cons (pe_glob (v := .ref a.Waits) (by rfl) T.g_Waits rfl) pa_nil))) pa_nil))))))))))), ?_⟩
    try dsimp only [cxOf]
    have s0 : Same H H := Same.refl H
    walk_at "rd"
    intro q1 hq1
    have z1 := (Same.refl H).new (o := .lst [V.bl (decide (i = 0)), V.bl (decide (i = 1)), V.bl (decide (i = 2)), V.bl (decide (i = 3))]) hq1
    have l1 : upd H q1 (.lst [V.bl (decide (i = 0)), V.bl (decide (i = 1)), V.bl (decide (i = 2)), V.bl (decide (i = 3))]) q1 = some (.lst [V.bl (decide (i = 0)), V.bl (decide (i = 1)), V.bl (decide (i = 2)), V.bl (decide (i = 3))]) := upd_same
    replace x := x.same z1
    have s1 := s0.trans z1
    generalize upd H q1 (.lst [V.bl (decide (i = 0)), V.bl (decide (i = 1)), V.bl (decide (i = 2)), V.bl (decide (i = 3))]) = H1 at l1 x s1 ⊢
    clear z1 s0
    walk_at "rd"
    intro q2 hq2
    have z2 := (Same.refl H1).new (o := .lst [V.bl (decide (i = 4)), V.bl (decide (i = 5)), V.bl (decide (i = 6)), V.bl (decide (i = 7))]) hq2
    have l2 : upd H1 q2 (.lst [V.bl (decide (i = 4)), V.bl (decide (i = 5)), V.bl (decide (i = 6)), V.bl (decide (i = 7))]) q2 = some (.lst [V.bl (decide (i = 4)), V.bl (decide (i = 5)), V.bl (decide (i = 6)), V.bl (decide (i = 7))]) := upd_same
    replace x := x.same z2
    have s2 := s1.trans z2
    replace l1 := z2 _ _ l1
    generalize upd H1 q2 (.lst [V.bl (decide (i = 4)), V.bl (decide (i = 5)), V.bl (decide (i = 6)), V.bl (decide (i = 7))]) = H2 at l2 x s2 l1 ⊢
    clear z2 s1
    have lc2 : ([V.bl (decide (i = 0)), V.bl (decide (i = 1)), V.bl (decide (i = 2)), V.bl (decide (i = 3))] : List V).length + ([V.bl (decide (i = 4)), V.bl (decide (i = 5)), V.bl (decide (i = 6)), V.bl (decide (i = 7))] : List V).length ≤ sizeLine := by rw [sizeLine_eq]; show 8 ≤ 16777216; decide
    walk_at "rd"
    intro q3 hq3
    have z3 := (Same.refl H2).new (o := .lst ([V.bl (decide (i = 0)), V.bl (decide (i = 1)), V.bl (decide (i = 2)), V.bl (decide (i = 3))] ++ [V.bl (decide (i = 4)), V.bl (decide (i = 5)), V.bl (decide (i = 6)), V.bl (decide (i = 7))])) hq3
    have l3 : upd H2 q3 (.lst ([V.bl (decide (i = 0)), V.bl (decide (i = 1)), V.bl (decide (i = 2)), V.bl (decide (i = 3))] ++ [V.bl (decide (i = 4)), V.bl (decide (i = 5)), V.bl (decide (i = 6)), V.bl (decide (i = 7))])) q3 = some (.lst [V.bl (decide (i = 0)), V.bl (decide (i = 1)), V.bl (decide (i = 2)), V.bl (decide (i = 3)), V.bl (decide (i = 4)), V.bl (decide (i = 5)), V.bl (decide (i = 6)), V.bl (decide (i = 7))]) := upd_same
    replace x := x.same z3
    have s3 := s2.trans z3
    replace l1 := z3 _ _ l1
    generalize upd H2 q3 (.lst ([V.bl (decide (i = 0)), V.bl (decide (i = 1)), V.bl (decide (i = 2)), V.bl (decide (i = 3))] ++ [V.bl (decide (i = 4)), V.bl (decide (i = 5)), V.bl (decide (i = 6)), V.bl (decide (i = 7))])) = H3 at l3 x s3 l1 ⊢
    clear z3 s2
    walk_at "rd"
    intro q4 hq4
    have z4 := (Same.refl H3).new (o := .lst [V.bl (decide (i = 8)), V.bl (decide (i = 9)), V.bl (decide (i = 10)), V.bl (decide (i = 11))]) hq4
    have l4 : upd H3 q4 (.lst [V.bl (decide (i = 8)), V.bl (decide (i = 9)), V.bl (decide (i = 10)), V.bl (decide (i = 11))]) q4 = some (.lst [V.bl (decide (i = 8)), V.bl (decide (i = 9)), V.bl (decide (i = 10)), V.bl (decide (i = 11))]) := upd_same
    replace x := x.same z4
    have s4 := s3.trans z4
    replace l3 := z4 _ _ l3
    generalize upd H3 q4 (.lst [V.bl (decide (i = 8)), V.bl (decide (i = 9)), V.bl (decide (i = 10)), V.bl (decide (i = 11))]) = H4 at l4 x s4 l3 ⊢
    clear z4 s3
    have lc4 : ([V.bl (decide (i = 0)), V.bl (decide (i = 1)), V.bl (decide (i = 2)), V.bl (decide (i = 3)), V.bl (decide (i = 4)), V.bl (decide (i = 5)), V.bl (decide (i = 6)), V.bl (decide (i = 7))] : List V).length + ([V.bl (decide (i = 8)), V.bl (decide (i = 9)), V.bl (decide (i = 10)), V.bl (decide (i = 11))] : List V).length ≤ sizeLine := by rw [sizeLine_eq]; show 12 ≤ 16777216; decide
    walk_at "rd"
    intro q5 hq5
    have z5 := (Same.refl H4).new (o := .lst ([V.bl (decide (i = 0)), V.bl (decide (i = 1)), V.bl (decide (i = 2)), V.bl (decide (i = 3)), V.bl (decide (i = 4)), V.bl (decide (i = 5)), V.bl (decide (i = 6)), V.bl (decide (i = 7))] ++ [V.bl (decide (i = 8)), V.bl (decide (i = 9)), V.bl (decide (i = 10)), V.bl (decide (i = 11))])) hq5
    have l5 : upd H4 q5 (.lst ([V.bl (decide (i = 0)), V.bl (decide (i = 1)), V.bl (decide (i = 2)), V.bl (decide (i = 3)), V.bl (decide (i = 4)), V.bl (decide (i = 5)), V.bl (decide (i = 6)), V.bl (decide (i = 7))] ++ [V.bl (decide (i = 8)), V.bl (decide (i = 9)), V.bl (decide (i = 10)), V.bl (decide (i = 11))])) q5 = some (.lst [V.bl (decide (i = 0)), V.bl (decide (i = 1)), V.bl (decide (i = 2)), V.bl (decide (i = 3)), V.bl (decide (i = 4)), V.bl (decide (i = 5)), V.bl (decide (i = 6)), V.bl (decide (i = 7)), V.bl (decide (i = 8)), V.bl (decide (i = 9)), V.bl (decide (i = 10)), V.bl (decide (i = 11))]) := upd_same
    replace x := x.same z5
    have s5 := s4.trans z5
    replace l3 := z5 _ _ l3
    generalize upd H4 q5 (.lst ([V.bl (decide (i = 0)), V.bl (decide (i = 1)), V.bl (decide (i = 2)), V.bl (decide (i = 3)), V.bl (decide (i = 4)), V.bl (decide (i = 5)), V.bl (decide (i = 6)), V.bl (decide (i = 7))] ++ [V.bl (decide (i = 8)), V.bl (decide (i = 9)), V.bl (decide (i = 10)), V.bl (decide (i = 11))])) = H5 at l5 x s5 l3 ⊢
    clear z5 s4
    walk_at "rd"
    intro q6 hq6
    have z6 := (Same.refl H5).new (o := .lst [V.bl (decide (i = 12)), V.bl (decide (i = 13)), V.bl (decide (i = 14)), V.bl (decide (i = 15))]) hq6
    have l6 : upd H5 q6 (.lst [V.bl (decide (i = 12)), V.bl (decide (i = 13)), V.bl (decide (i = 14)), V.bl (decide (i = 15))]) q6 = some (.lst [V.bl (decide (i = 12)), V.bl (decide (i = 13)), V.bl (decide (i = 14)), V.bl (decide (i = 15))]) := upd_same
    replace x := x.same z6
    have s6 := s5.trans z6
    replace l5 := z6 _ _ l5
    generalize upd H5 q6 (.lst [V.bl (decide (i = 12)), V.bl (decide (i = 13)), V.bl (decide (i = 14)), V.bl (decide (i = 15))]) = H6 at l6 x s6 l5 ⊢
    clear z6 s5
    have lc6 : ([V.bl (decide (i = 0)), V.bl (decide (i = 1)), V.bl (decide (i = 2)), V.bl (decide (i = 3)), V.bl (decide (i = 4)), V.bl (decide (i = 5)), V.bl (decide (i = 6)), V.bl (decide (i = 7)), V.bl (decide (i = 8)), V.bl (decide (i = 9)), V.bl (decide (i = 10)), V.bl (decide (i = 11))] : List V).length + ([V.bl (decide (i = 12)), V.bl (decide (i = 13)), V.bl (decide (i = 14)), V.bl (decide (i = 15))] : List V).length ≤ sizeLine := by rw [sizeLine_eq]; show 16 ≤ 16777216; decide
    walk_at "rd"
    intro q7 hq7
    have z7 := (Same.refl H6).new (o := .lst ([V.bl (decide (i = 0)), V.bl (decide (i = 1)), V.bl (decide (i = 2)), V.bl (decide (i = 3)), V.bl (decide (i = 4)), V.bl (decide (i = 5)), V.bl (decide (i = 6)), V.bl (decide (i = 7)), V.bl (decide (i = 8)), V.bl (decide (i = 9)), V.bl (decide (i = 10)), V.bl (decide (i = 11))] ++ [V.bl (decide (i = 12)), V.bl (decide (i = 13)), V.bl (decide (i = 14)), V.bl (decide (i = 15))])) hq7
    have l7 : upd H6 q7 (.lst ([V.bl (decide (i = 0)), V.bl (decide (i = 1)), V.bl (decide (i = 2)), V.bl (decide (i = 3)), V.bl (decide (i = 4)), V.bl (decide (i = 5)), V.bl (decide (i = 6)), V.bl (decide (i = 7)), V.bl (decide (i = 8)), V.bl (decide (i = 9)), V.bl (decide (i = 10)), V.bl (decide (i = 11))] ++ [V.bl (decide (i = 12)), V.bl (decide (i = 13)), V.bl (decide (i = 14)), V.bl (decide (i = 15))])) q7 = some (.lst [V.bl (decide (i = 0)), V.bl (decide (i = 1)), V.bl (decide (i = 2)), V.bl (decide (i = 3)), V.bl (decide (i = 4)), V.bl (decide (i = 5)), V.bl (decide (i = 6)), V.bl (decide (i = 7)), V.bl (decide (i = 8)), V.bl (decide (i = 9)), V.bl (decide (i = 10)), V.bl (decide (i = 11)), V.bl (decide (i = 12)), V.bl (decide (i = 13)), V.bl (decide (i = 14)), V.bl (decide (i = 15))]) := upd_same
    replace x := x.same z7
    have s7 := s6.trans z7
    replace l5 := z7 _ _ l5
    generalize upd H6 q7 (.lst ([V.bl (decide (i = 0)), V.bl (decide (i = 1)), V.bl (decide (i = 2)), V.bl (decide (i = 3)), V.bl (decide (i = 4)), V.bl (decide (i = 5)), V.bl (decide (i = 6)), V.bl (decide (i = 7)), V.bl (decide (i = 8)), V.bl (decide (i = 9)), V.bl (decide (i = 10)), V.bl (decide (i = 11))] ++ [V.bl (decide (i = 12)), V.bl (decide (i = 13)), V.bl (decide (i = 14)), V.bl (decide (i = 15))])) = H7 at l7 x s7 l5 ⊢
    clear z7 s6
    walk_at "rd"
    intro q8 hq8
    have z8 := (Same.refl H7).new (o := .lst [V.bl (decide (i = 16)), V.bl (decide (i = 17)), V.bl (decide (i = 18)), V.bl (decide (i = 19))]) hq8
    have l8 : upd H7 q8 (.lst [V.bl (decide (i = 16)), V.bl (decide (i = 17)), V.bl (decide (i = 18)), V.bl (decide (i = 19))]) q8 = some (.lst [V.bl (decide (i = 16)), V.bl (decide (i = 17)), V.bl (decide (i = 18)), V.bl (decide (i = 19))]) := upd_same
    replace x := x.same z8
    have s8 := s7.trans z8
    replace l7 := z8 _ _ l7
    generalize upd H7 q8 (.lst [V.bl (decide (i = 16)), V.bl (decide (i = 17)), V.bl (decide (i = 18)), V.bl (decide (i = 19))]) = H8 at l8 x s8 l7 ⊢
    clear z8 s7
    have lc8 : ([V.bl (decide (i = 0)), V.bl (decide (i = 1)), V.bl (decide (i = 2)), V.bl (decide (i = 3)), V.bl (decide (i = 4)), V.bl (decide (i = 5)), V.bl (decide (i = 6)), V.bl (decide (i = 7)), V.bl (decide (i = 8)), V.bl (decide (i = 9)), V.bl (decide (i = 10)), V.bl (decide (i = 11)), V.bl (decide (i = 12)), V.bl (decide (i = 13)), V.bl (decide (i = 14)), V.bl (decide (i = 15))] : List V).length + ([V.bl (decide (i = 16)), V.bl (decide (i = 17)), V.bl (decide (i = 18)), V.bl (decide (i = 19))] : List V).length ≤ sizeLine := by rw [sizeLine_eq]; show 20 ≤ 16777216; decide
    walk_at "rd"
    intro q9 hq9
    have z9 := (Same.refl H8).new (o := .lst ([V.bl (decide (i = 0)), V.bl (decide (i = 1)), V.bl (decide (i = 2)), V.bl (decide (i = 3)), V.bl (decide (i = 4)), V.bl (decide (i = 5)), V.bl (decide (i = 6)), V.bl (decide (i = 7)), V.bl (decide (i = 8)), V.bl (decide (i = 9)), V.bl (decide (i = 10)), V.bl (decide (i = 11)), V.bl (decide (i = 12)), V.bl (decide (i = 13)), V.bl (decide (i = 14)), V.bl (decide (i = 15))] ++ [V.bl (decide (i = 16)), V.bl (decide (i = 17)), V.bl (decide (i = 18)), V.bl (decide (i = 19))])) hq9
    have l9 : upd H8 q9 (.lst ([V.bl (decide (i = 0)), V.bl (decide (i = 1)), V.bl (decide (i = 2)), V.bl (decide (i = 3)), V.bl (decide (i = 4)), V.bl (decide (i = 5)), V.bl (decide (i = 6)), V.bl (decide (i = 7)), V.bl (decide (i = 8)), V.bl (decide (i = 9)), V.bl (decide (i = 10)), V.bl (decide (i = 11)), V.bl (decide (i = 12)), V.bl (decide (i = 13)), V.bl (decide (i = 14)), V.bl (decide (i = 15))] ++ [V.bl (decide (i = 16)), V.bl (decide (i = 17)), V.bl (decide (i = 18)), V.bl (decide (i = 19))])) q9 = some (.lst [V.bl (decide (i = 0)), V.bl (decide (i = 1)), V.bl (decide (i = 2)), V.bl (decide (i = 3)), V.bl (decide (i = 4)), V.bl (decide (i = 5)), V.bl (decide (i = 6)), V.bl (decide (i = 7)), V.bl (decide (i = 8)), V.bl (decide (i = 9)), V.bl (decide (i = 10)), V.bl (decide (i = 11)), V.bl (decide (i = 12)), V.bl (decide (i = 13)), V.bl (decide (i = 14)), V.bl (decide (i = 15)), V.bl (decide (i = 16)), V.bl (decide (i = 17)), V.bl (decide (i = 18)), V.bl (decide (i = 19))]) := upd_same
    replace x := x.same z9
    have s9 := s8.trans z9
    replace l7 := z9 _ _ l7
    generalize upd H8 q9 (.lst ([V.bl (decide (i = 0)), V.bl (decide (i = 1)), V.bl (decide (i = 2)), V.bl (decide (i = 3)), V.bl (decide (i = 4)), V.bl (decide (i = 5)), V.bl (decide (i = 6)), V.bl (decide (i = 7)), V.bl (decide (i = 8)), V.bl (decide (i = 9)), V.bl (decide (i = 10)), V.bl (decide (i = 11)), V.bl (decide (i = 12)), V.bl (decide (i = 13)), V.bl (decide (i = 14)), V.bl (decide (i = 15))] ++ [V.bl (decide (i = 16)), V.bl (decide (i = 17)), V.bl (decide (i = 18)), V.bl (decide (i = 19))])) = H9 at l9 x s9 l7 ⊢
    clear z9 s8
    walk_at "rd"
    intro q10 hq10
    have z10 := (Same.refl H9).new (o := .lst [V.bl (decide (i = 20)), V.bl (decide (i = 21)), V.bl (decide (i = 22)), V.bl (decide (i = 23))]) hq10
    have l10 : upd H9 q10 (.lst [V.bl (decide (i = 20)), V.bl (decide (i = 21)), V.bl (decide (i = 22)), V.bl (decide (i = 23))]) q10 = some (.lst [V.bl (decide (i = 20)), V.bl (decide (i = 21)), V.bl (decide (i = 22)), V.bl (decide (i = 23))]) := upd_same
    replace x := x.same z10
    have s10 := s9.trans z10
    replace l9 := z10 _ _ l9
    generalize upd H9 q10 (.lst [V.bl (decide (i = 20)), V.bl (decide (i = 21)), V.bl (decide (i = 22)), V.bl (decide (i = 23))]) = H10 at l10 x s10 l9 ⊢
    clear z10 s9
    have lc10 : ([V.bl (decide (i = 0)), V.bl (decide (i = 1)), V.bl (decide (i = 2)), V.bl (decide (i = 3)), V.bl (decide (i = 4)), V.bl (decide (i = 5)), V.bl (decide (i = 6)), V.bl (decide (i = 7)), V.bl (decide (i = 8)), V.bl (decide (i = 9)), V.bl (decide (i = 10)), V.bl (decide (i = 11)), V.bl (decide (i = 12)), V.bl (decide (i = 13)), V.bl (decide (i = 14)), V.bl (decide (i = 15)), V.bl (decide (i = 16)), V.bl (decide (i = 17)), V.bl (decide (i = 18)), V.bl (decide (i = 19))] : List V).length + ([V.bl (decide (i = 20)), V.bl (decide (i = 21)), V.bl (decide (i = 22)), V.bl (decide (i = 23))] : List V).length ≤ sizeLine := by rw [sizeLine_eq]; show 24 ≤ 16777216; decide
    walk_at "rd"
    intro q11 hq11
    have z11 := (Same.refl H10).new (o := .lst ([V.bl (decide (i = 0)), V.bl (decide (i = 1)), V.bl (decide (i = 2)), V.bl (decide (i = 3)), V.bl (decide (i = 4)), V.bl (decide (i = 5)), V.bl (decide (i = 6)), V.bl (decide (i = 7)), V.bl (decide (i = 8)), V.bl (decide (i = 9)), V.bl (decide (i = 10)), V.bl (decide (i = 11)), V.bl (decide (i = 12)), V.bl (decide (i = 13)), V.bl (decide (i = 14)), V.bl (decide (i = 15)), V.bl (decide (i = 16)), V.bl (decide (i = 17)), V.bl (decide (i = 18)), V.bl (decide (i = 19))] ++ [V.bl (decide (i = 20)), V.bl (decide (i = 21)), V.bl (decide (i = 22)), V.bl (decide (i = 23))])) hq11
    have l11 : upd H10 q11 (.lst ([V.bl (decide (i = 0)), V.bl (decide (i = 1)), V.bl (decide (i = 2)), V.bl (decide (i = 3)), V.bl (decide (i = 4)), V.bl (decide (i = 5)), V.bl (decide (i = 6)), V.bl (decide (i = 7)), V.bl (decide (i = 8)), V.bl (decide (i = 9)), V.bl (decide (i = 10)), V.bl (decide (i = 11)), V.bl (decide (i = 12)), V.bl (decide (i = 13)), V.bl (decide (i = 14)), V.bl (decide (i = 15)), V.bl (decide (i = 16)), V.bl (decide (i = 17)), V.bl (decide (i = 18)), V.bl (decide (i = 19))] ++ [V.bl (decide (i = 20)), V.bl (decide (i = 21)), V.bl (decide (i = 22)), V.bl (decide (i = 23))])) q11 = some (.lst [V.bl (decide (i = 0)), V.bl (decide (i = 1)), V.bl (decide (i = 2)), V.bl (decide (i = 3)), V.bl (decide (i = 4)), V.bl (decide (i = 5)), V.bl (decide (i = 6)), V.bl (decide (i = 7)), V.bl (decide (i = 8)), V.bl (decide (i = 9)), V.bl (decide (i = 10)), V.bl (decide (i = 11)), V.bl (decide (i = 12)), V.bl (decide (i = 13)), V.bl (decide (i = 14)), V.bl (decide (i = 15)), V.bl (decide (i = 16)), V.bl (decide (i = 17)), V.bl (decide (i = 18)), V.bl (decide (i = 19)), V.bl (decide (i = 20)), V.bl (decide (i = 21)), V.bl (decide (i = 22)), V.bl (decide (i = 23))]) := upd_same
    replace x := x.same z11
    have s11 := s10.trans z11
    replace l9 := z11 _ _ l9
    generalize upd H10 q11 (.lst ([V.bl (decide (i = 0)), V.bl (decide (i = 1)), V.bl (decide (i = 2)), V.bl (decide (i = 3)), V.bl (decide (i = 4)), V.bl (decide (i = 5)), V.bl (decide (i = 6)), V.bl (decide (i = 7)), V.bl (decide (i = 8)), V.bl (decide (i = 9)), V.bl (decide (i = 10)), V.bl (decide (i = 11)), V.bl (decide (i = 12)), V.bl (decide (i = 13)), V.bl (decide (i = 14)), V.bl (decide (i = 15)), V.bl (decide (i = 16)), V.bl (decide (i = 17)), V.bl (decide (i = 18)), V.bl (decide (i = 19))] ++ [V.bl (decide (i = 20)), V.bl (decide (i = 21)), V.bl (decide (i = 22)), V.bl (decide (i = 23))])) = H11 at l11 x s11 l9 ⊢
    clear z11 s10
    walk_at "rd"
    intro q12 hq12
    have z12 := (Same.refl H11).new (o := .lst [V.bl (decide (i = 24))]) hq12
    have l12 : upd H11 q12 (.lst [V.bl (decide (i = 24))]) q12 = some (.lst [V.bl (decide (i = 24))]) := upd_same
    replace x := x.same z12
    have s12 := s11.trans z12
    replace l11 := z12 _ _ l11
    generalize upd H11 q12 (.lst [V.bl (decide (i = 24))]) = H12 at l12 x s12 l11 ⊢
    clear z12 s11
    have lc12 : ([V.bl (decide (i = 0)), V.bl (decide (i = 1)), V.bl (decide (i = 2)), V.bl (decide (i = 3)), V.bl (decide (i = 4)), V.bl (decide (i = 5)), V.bl (decide (i = 6)), V.bl (decide (i = 7)), V.bl (decide (i = 8)), V.bl (decide (i = 9)), V.bl (decide (i = 10)), V.bl (decide (i = 11)), V.bl (decide (i = 12)), V.bl (decide (i = 13)), V.bl (decide (i = 14)), V.bl (decide (i = 15)), V.bl (decide (i = 16)), V.bl (decide (i = 17)), V.bl (decide (i = 18)), V.bl (decide (i = 19)), V.bl (decide (i = 20)), V.bl (decide (i = 21)), V.bl (decide (i = 22)), V.bl (decide (i = 23))] : List V).length + ([V.bl (decide (i = 24))] : List V).length ≤ sizeLine := by rw [sizeLine_eq]; show 25 ≤ 16777216; decide
    walk_at "rd"
    intro q13 hq13
    have z13 := (Same.refl H12).new (o := .lst ([V.bl (decide (i = 0)), V.bl (decide (i = 1)), V.bl (decide (i = 2)), V.bl (decide (i = 3)), V.bl (decide (i = 4)), V.bl (decide (i = 5)), V.bl (decide (i = 6)), V.bl (decide (i = 7)), V.bl (decide (i = 8)), V.bl (decide (i = 9)), V.bl (decide (i = 10)), V.bl (decide (i = 11)), V.bl (decide (i = 12)), V.bl (decide (i = 13)), V.bl (decide (i = 14)), V.bl (decide (i = 15)), V.bl (decide (i = 16)), V.bl (decide (i = 17)), V.bl (decide (i = 18)), V.bl (decide (i = 19)), V.bl (decide (i = 20)), V.bl (decide (i = 21)), V.bl (decide (i = 22)), V.bl (decide (i = 23))] ++ [V.bl (decide (i = 24))])) hq13
    have l13 : upd H12 q13 (.lst ([V.bl (decide (i = 0)), V.bl (decide (i = 1)), V.bl (decide (i = 2)), V.bl (decide (i = 3)), V.bl (decide (i = 4)), V.bl (decide (i = 5)), V.bl (decide (i = 6)), V.bl (decide (i = 7)), V.bl (decide (i = 8)), V.bl (decide (i = 9)), V.bl (decide (i = 10)), V.bl (decide (i = 11)), V.bl (decide (i = 12)), V.bl (decide (i = 13)), V.bl (decide (i = 14)), V.bl (decide (i = 15)), V.bl (decide (i = 16)), V.bl (decide (i = 17)), V.bl (decide (i = 18)), V.bl (decide (i = 19)), V.bl (decide (i = 20)), V.bl (decide (i = 21)), V.bl (decide (i = 22)), V.bl (decide (i = 23))] ++ [V.bl (decide (i = 24))])) q13 = some (.lst [V.bl (decide (i = 0)), V.bl (decide (i = 1)), V.bl (decide (i = 2)), V.bl (decide (i = 3)), V.bl (decide (i = 4)), V.bl (decide (i = 5)), V.bl (decide (i = 6)), V.bl (decide (i = 7)), V.bl (decide (i = 8)), V.bl (decide (i = 9)), V.bl (decide (i = 10)), V.bl (decide (i = 11)), V.bl (decide (i = 12)), V.bl (decide (i = 13)), V.bl (decide (i = 14)), V.bl (decide (i = 15)), V.bl (decide (i = 16)), V.bl (decide (i = 17)), V.bl (decide (i = 18)), V.bl (decide (i = 19)), V.bl (decide (i = 20)), V.bl (decide (i = 21)), V.bl (decide (i = 22)), V.bl (decide (i = 23)), V.bl (decide (i = 24))]) := upd_same
    replace x := x.same z13
    have s13 := s12.trans z13
    replace l11 := z13 _ _ l11
    generalize upd H12 q13 (.lst ([V.bl (decide (i = 0)), V.bl (decide (i = 1)), V.bl (decide (i = 2)), V.bl (decide (i = 3)), V.bl (decide (i = 4)), V.bl (decide (i = 5)), V.bl (decide (i = 6)), V.bl (decide (i = 7)), V.bl (decide (i = 8)), V.bl (decide (i = 9)), V.bl (decide (i = 10)), V.bl (decide (i = 11)), V.bl (decide (i = 12)), V.bl (decide (i = 13)), V.bl (decide (i = 14)), V.bl (decide (i = 15)), V.bl (decide (i = 16)), V.bl (decide (i = 17)), V.bl (decide (i = 18)), V.bl (decide (i = 19)), V.bl (decide (i = 20)), V.bl (decide (i = 21)), V.bl (decide (i = 22)), V.bl (decide (i = 23))] ++ [V.bl (decide (i = 24))])) = H13 at l13 x s13 l11 ⊢
    clear z13 s12
    walk_at "rd"
    exact k H13 q13 s13 l13
def spFld (a : Ad) : Sp := fun vs H Q _ => ∃ p i v1 v2, vs = [.ref p, .int (i : Nat)] ∧ i < 25 ∧ ErrI a H i v1 v2 p ∧ ∀ H' r, Same H H' → DueI H' i v1 v2 r → Q r H'
theorem ok_law_fields (T : Txt K mg a d) : FnOk P w K mg base CX0 2 a.law_fields d.law_fields ["_law_e", "_law_k"] (spFld a) := by
  refine T.law_fields.ok sc_law_fields (fun vs H Q E h => ?_) (fun cdv A outer s H vs Q E hr h => ?_)
  · obtain ⟨p, i, v1, v2, rfl, _⟩ := h
    rfl
  · obtain ⟨p, i, v1, v2, rfl, hi, ⟨C, hC, x⟩, k⟩ := h
    refine ⟨_, (pss_cons (ps_if (pt_cmpR op_eq (pv 1) pe_int (nomark _)) (pss_one (ps_ret (pe_xv (pv 0)))) pss_nil)
  (pss_cons (ps_if (pt_cmpR op_eq (pv 1) pe_int (nomark _)) (pss_one (ps_ret (pe_xv (pv 0)))) pss_nil)
  (pss_cons (ps_if (pt_cmpR op_in_seq (pv 1) (pe_lst (pa_cons pe_int (pa_cons pe_int (pa_cons pe_int pa_nil)))) (by rfl)) (pss_one (ps_ret (pe_xv (pv 0)))) pss_nil)
  (pss_cons (ps_if (pt_cmpR op_in_seq (pv 1) (pe_lst (pa_cons pe_int (pa_cons pe_int pa_nil))) (by rfl)) (pss_one (ps_ret (pe_xv (pv 0)))) pss_nil)
  (pss_cons (ps_if (pt_cmpR op_in_seq (pv 1) (pe_lst (pa_cons pe_int (pa_cons pe_int (pa_cons pe_int pa_nil)))) (by rfl)) (pss_one (ps_ret (pe_xv (pv 0)))) pss_nil)
  (pss_cons (ps_if (pt_cmpR op_in_seq (pv 1) (pe_lst (pa_cons pe_int (pa_cons pe_int pa_nil))) (by rfl)) (pss_one (ps_ret (pe_xv (pv 0)))) pss_nil)
  (pss_cons (ps_if (pt_cmpR op_in_seq (pv 1) (pe_lst (pa_cons pe_int (pa_cons pe_int (pa_cons pe_int (pa_cons pe_int (pa_cons pe_int pa_nil)))))) (by rfl)) (pss_one (ps_ret (pe_xv (pv 0)))) pss_nil)
  (pss_cons (ps_if (pt_cmpR op_eq (pv 1) pe_int (nomark _)) (pss_one (ps_ret (pe_xv (pv 0)))) pss_nil)
  (pss_cons (ps_if (pt_cmpR op_eq (pv 1) pe_int (nomark _)) (pss_one (ps_ret (pe_xv (pv 0)))) pss_nil)
  (pss_cons (ps_if (pt_cmpR op_eq (pv 1) pe_int (nomark _)) (pss_one (ps_ret (pe_xv (pv 0)))) pss_nil)
  (pss_cons (ps_if (pt_cmpR op_eq (pv 1) pe_int (nomark _)) (pss_one (ps_ret (pe_xv (pv 0)))) pss_nil)
  (pss_cons (ps_if (pt_cmpR op_eq (pv 1) pe_int (nomark _)) (pss_one (ps_ret (pe_tup (pa_cons (pe_xv (pv 0)) (pa_cons (pe_xv (pv 0)) pa_nil))))) pss_nil)
  (pss_one (ps_ret (pe_ifExp (pt_cmpR op_eq (pv 1) pe_int (nomark _)) (pe_xv (pv 0)) pe_non))))))))))))))), ?_⟩
    try dsimp only [cxOf]
    have s0 : Same H H := Same.refl H
    have hi : i = 0 ∨ i = 1 ∨ i = 2 ∨ i = 3 ∨ i = 4 ∨ i = 5 ∨ i = 6 ∨ i = 7 ∨ i = 8 ∨ i = 9 ∨ i = 10 ∨ i = 11 ∨ i = 12 ∨ i = 13 ∨ i = 14 ∨ i = 15 ∨ i = 16 ∨ i = 17 ∨ i = 18 ∨ i = 19 ∨ i = 20 ∨ i = 21 ∨ i = 22 ∨ i = 23 ∨ i = 24 := by omega
    rcases hi with rfl | rfl | rfl | rfl | rfl | rfl | rfl | rfl | rfl | rfl | rfl | rfl | rfl | rfl | rfl | rfl | rfl | rfl | rfl | rfl | rfl | rfl | rfl | rfl | rfl
    · cases hC
      have f_index : PySem.W.findIn K (.ref a.BadChange) "index" = some none := T.e_BadChange.noF ("index", .inl 0) (by simp [ef_BadChange])
      have l_index : List.lookup ("index" : Str) (fieldsE 0 v1 v2) = some v1 := rfl
      have xf := xfc T.e_BadChange
      walk_at "rd"
      exact k _ _ s0 rfl
    · cases hC
      have f_line : PySem.W.findIn K (.ref a.BadLibrary) "line" = some none := T.e_BadLibrary.noF ("line", .inl 0) (by simp [ef_BadLibrary])
      have l_line : List.lookup ("line" : Str) (fieldsE 1 v1 v2) = some v1 := rfl
      have xf := xfc T.e_BadLibrary
      walk_at "rd"
      exact k _ _ s0 rfl
    · cases hC
      have f_mode : PySem.W.findIn K (.ref a.BadMode) "mode" = some none := T.e_BadMode.noF ("mode", .inl 0) (by simp [ef_BadMode])
      have l_mode : List.lookup ("mode" : Str) (fieldsE 2 v1 v2) = some v1 := rfl
      have xf := xfc T.e_BadMode
      walk_at "rd"
      intro q1 hq1
      have z1 := (Same.refl H).new (o := .lst [V.int 2, V.int 10, V.int 19]) hq1
      have u1 := upd_same (H := H) (a := q1) (o := .lst [V.int 2, V.int 10, V.int 19])
      replace x := x.same z1
      have s1 := s0.trans z1
      generalize upd H q1 (.lst [V.int 2, V.int 10, V.int 19]) = H1 at x s1 u1 ⊢
      clear z1 s0
      walk_at "rd"
      exact k _ _ s1 rfl
    · cases hC
      have f_thing : PySem.W.findIn K (.ref a.BadMove) "thing" = some none := T.e_BadMove.noF ("thing", .inl 0) (by simp [ef_BadMove])
      have l_thing : List.lookup ("thing" : Str) (fieldsE 3 v1 v2) = some v1 := rfl
      have xf := xfc T.e_BadMove
      walk_at "rd"
      intro q1 hq1
      have z1 := (Same.refl H).new (o := .lst [V.int 2, V.int 10, V.int 19]) hq1
      have u1 := upd_same (H := H) (a := q1) (o := .lst [V.int 2, V.int 10, V.int 19])
      replace x := x.same z1
      have s1 := s0.trans z1
      generalize upd H q1 (.lst [V.int 2, V.int 10, V.int 19]) = H1 at x s1 u1 ⊢
      clear z1 s0
      walk_at "rd"
      intro q2 hq2
      have z2 := (Same.refl H1).new (o := .lst [V.int 3, V.int 18]) hq2
      have u2 := upd_same (H := H1) (a := q2) (o := .lst [V.int 3, V.int 18])
      replace x := x.same z2
      have s2 := s1.trans z2
      generalize upd H1 q2 (.lst [V.int 3, V.int 18]) = H2 at x s2 u2 ⊢
      clear z2 s1
      walk_at "rd"
      exact k _ _ s2 rfl
    · cases hC
      have f_record : PySem.W.findIn K (.ref a.BadRecords) "record" = some none := T.e_BadRecords.noF ("record", .inl 0) (by simp [ef_BadRecords])
      have l_record : List.lookup ("record" : Str) (fieldsE 4 v1 v2) = some v1 := rfl
      have xf := xfc T.e_BadRecords
      walk_at "rd"
      intro q1 hq1
      have z1 := (Same.refl H).new (o := .lst [V.int 2, V.int 10, V.int 19]) hq1
      have u1 := upd_same (H := H) (a := q1) (o := .lst [V.int 2, V.int 10, V.int 19])
      replace x := x.same z1
      have s1 := s0.trans z1
      generalize upd H q1 (.lst [V.int 2, V.int 10, V.int 19]) = H1 at x s1 u1 ⊢
      clear z1 s0
      walk_at "rd"
      intro q2 hq2
      have z2 := (Same.refl H1).new (o := .lst [V.int 3, V.int 18]) hq2
      have u2 := upd_same (H := H1) (a := q2) (o := .lst [V.int 3, V.int 18])
      replace x := x.same z2
      have s2 := s1.trans z2
      generalize upd H1 q2 (.lst [V.int 3, V.int 18]) = H2 at x s2 u2 ⊢
      clear z2 s1
      walk_at "rd"
      intro q3 hq3
      have z3 := (Same.refl H2).new (o := .lst [V.int 4, V.int 16, V.int 24]) hq3
      have u3 := upd_same (H := H2) (a := q3) (o := .lst [V.int 4, V.int 16, V.int 24])
      replace x := x.same z3
      have s3 := s2.trans z3
      generalize upd H2 q3 (.lst [V.int 4, V.int 16, V.int 24]) = H3 at x s3 u3 ⊢
      clear z3 s2
      walk_at "rd"
      exact k _ _ s3 rfl
    · cases hC
      have f_word : PySem.W.findIn K (.ref a.BadWord) "word" = some none := T.e_BadWord.noF ("word", .inl 0) (by simp [ef_BadWord])
      have l_word : List.lookup ("word" : Str) (fieldsE 5 v1 v2) = some v1 := rfl
      have xf := xfc T.e_BadWord
      walk_at "rd"
      intro q1 hq1
      have z1 := (Same.refl H).new (o := .lst [V.int 2, V.int 10, V.int 19]) hq1
      have u1 := upd_same (H := H) (a := q1) (o := .lst [V.int 2, V.int 10, V.int 19])
      replace x := x.same z1
      have s1 := s0.trans z1
      generalize upd H q1 (.lst [V.int 2, V.int 10, V.int 19]) = H1 at x s1 u1 ⊢
      clear z1 s0
      walk_at "rd"
      intro q2 hq2
      have z2 := (Same.refl H1).new (o := .lst [V.int 3, V.int 18]) hq2
      have u2 := upd_same (H := H1) (a := q2) (o := .lst [V.int 3, V.int 18])
      replace x := x.same z2
      have s2 := s1.trans z2
      generalize upd H1 q2 (.lst [V.int 3, V.int 18]) = H2 at x s2 u2 ⊢
      clear z2 s1
      walk_at "rd"
      intro q3 hq3
      have z3 := (Same.refl H2).new (o := .lst [V.int 4, V.int 16, V.int 24]) hq3
      have u3 := upd_same (H := H2) (a := q3) (o := .lst [V.int 4, V.int 16, V.int 24])
      replace x := x.same z3
      have s3 := s2.trans z3
      generalize upd H2 q3 (.lst [V.int 4, V.int 16, V.int 24]) = H3 at x s3 u3 ⊢
      clear z3 s2
      walk_at "rd"
      intro q4 hq4
      have z4 := (Same.refl H3).new (o := .lst [V.int 5, V.int 9]) hq4
      have u4 := upd_same (H := H3) (a := q4) (o := .lst [V.int 5, V.int 9])
      replace x := x.same z4
      have s4 := s3.trans z4
      generalize upd H3 q4 (.lst [V.int 5, V.int 9]) = H4 at x s4 u4 ⊢
      clear z4 s3
      walk_at "rd"
      exact k _ _ s4 rfl
    · cases hC
      have f_name : PySem.W.findIn K (.ref a.Clash) "name" = some none := T.e_Clash.noF ("name", .inl 0) (by simp [ef_Clash])
      have l_name : List.lookup ("name" : Str) (fieldsE 6 v1 v2) = some v1 := rfl
      have xf := xfc T.e_Clash
      walk_at "rd"
      intro q1 hq1
      have z1 := (Same.refl H).new (o := .lst [V.int 2, V.int 10, V.int 19]) hq1
      have u1 := upd_same (H := H) (a := q1) (o := .lst [V.int 2, V.int 10, V.int 19])
      replace x := x.same z1
      have s1 := s0.trans z1
      generalize upd H q1 (.lst [V.int 2, V.int 10, V.int 19]) = H1 at x s1 u1 ⊢
      clear z1 s0
      walk_at "rd"
      intro q2 hq2
      have z2 := (Same.refl H1).new (o := .lst [V.int 3, V.int 18]) hq2
      have u2 := upd_same (H := H1) (a := q2) (o := .lst [V.int 3, V.int 18])
      replace x := x.same z2
      have s2 := s1.trans z2
      generalize upd H1 q2 (.lst [V.int 3, V.int 18]) = H2 at x s2 u2 ⊢
      clear z2 s1
      walk_at "rd"
      intro q3 hq3
      have z3 := (Same.refl H2).new (o := .lst [V.int 4, V.int 16, V.int 24]) hq3
      have u3 := upd_same (H := H2) (a := q3) (o := .lst [V.int 4, V.int 16, V.int 24])
      replace x := x.same z3
      have s3 := s2.trans z3
      generalize upd H2 q3 (.lst [V.int 4, V.int 16, V.int 24]) = H3 at x s3 u3 ⊢
      clear z3 s2
      walk_at "rd"
      intro q4 hq4
      have z4 := (Same.refl H3).new (o := .lst [V.int 5, V.int 9]) hq4
      have u4 := upd_same (H := H3) (a := q4) (o := .lst [V.int 5, V.int 9])
      replace x := x.same z4
      have s4 := s3.trans z4
      generalize upd H3 q4 (.lst [V.int 5, V.int 9]) = H4 at x s4 u4 ⊢
      clear z4 s3
      walk_at "rd"
      intro q5 hq5
      have z5 := (Same.refl H4).new (o := .lst [V.int 6, V.int 8, V.int 15, V.int 22, V.int 23]) hq5
      have u5 := upd_same (H := H4) (a := q5) (o := .lst [V.int 6, V.int 8, V.int 15, V.int 22, V.int 23])
      replace x := x.same z5
      have s5 := s4.trans z5
      generalize upd H4 q5 (.lst [V.int 6, V.int 8, V.int 15, V.int 22, V.int 23]) = H5 at x s5 u5 ⊢
      clear z5 s4
      walk_at "rd"
      exact k _ _ s5 rfl
    · cases hC
      have f_first : PySem.W.findIn K (.ref a.Doomed) "first" = some none := T.e_Doomed.noF ("first", .inl 0) (by simp [ef_Doomed])
      have l_first : List.lookup ("first" : Str) (fieldsE 7 v1 v2) = some v1 := rfl
      have xf := xfc T.e_Doomed
      walk_at "rd"
      intro q1 hq1
      have z1 := (Same.refl H).new (o := .lst [V.int 2, V.int 10, V.int 19]) hq1
      have u1 := upd_same (H := H) (a := q1) (o := .lst [V.int 2, V.int 10, V.int 19])
      replace x := x.same z1
      have s1 := s0.trans z1
      generalize upd H q1 (.lst [V.int 2, V.int 10, V.int 19]) = H1 at x s1 u1 ⊢
      clear z1 s0
      walk_at "rd"
      intro q2 hq2
      have z2 := (Same.refl H1).new (o := .lst [V.int 3, V.int 18]) hq2
      have u2 := upd_same (H := H1) (a := q2) (o := .lst [V.int 3, V.int 18])
      replace x := x.same z2
      have s2 := s1.trans z2
      generalize upd H1 q2 (.lst [V.int 3, V.int 18]) = H2 at x s2 u2 ⊢
      clear z2 s1
      walk_at "rd"
      intro q3 hq3
      have z3 := (Same.refl H2).new (o := .lst [V.int 4, V.int 16, V.int 24]) hq3
      have u3 := upd_same (H := H2) (a := q3) (o := .lst [V.int 4, V.int 16, V.int 24])
      replace x := x.same z3
      have s3 := s2.trans z3
      generalize upd H2 q3 (.lst [V.int 4, V.int 16, V.int 24]) = H3 at x s3 u3 ⊢
      clear z3 s2
      walk_at "rd"
      intro q4 hq4
      have z4 := (Same.refl H3).new (o := .lst [V.int 5, V.int 9]) hq4
      have u4 := upd_same (H := H3) (a := q4) (o := .lst [V.int 5, V.int 9])
      replace x := x.same z4
      have s4 := s3.trans z4
      generalize upd H3 q4 (.lst [V.int 5, V.int 9]) = H4 at x s4 u4 ⊢
      clear z4 s3
      walk_at "rd"
      intro q5 hq5
      have z5 := (Same.refl H4).new (o := .lst [V.int 6, V.int 8, V.int 15, V.int 22, V.int 23]) hq5
      have u5 := upd_same (H := H4) (a := q5) (o := .lst [V.int 6, V.int 8, V.int 15, V.int 22, V.int 23])
      replace x := x.same z5
      have s5 := s4.trans z5
      generalize upd H4 q5 (.lst [V.int 6, V.int 8, V.int 15, V.int 22, V.int 23]) = H5 at x s5 u5 ⊢
      clear z5 s4
      walk_at "rd"
      exact k _ _ s5 rfl
    · cases hC
      have f_name : PySem.W.findIn K (.ref a.Endless) "name" = some none := T.e_Endless.noF ("name", .inl 0) (by simp [ef_Endless])
      have l_name : List.lookup ("name" : Str) (fieldsE 8 v1 v2) = some v1 := rfl
      have xf := xfc T.e_Endless
      walk_at "rd"
      intro q1 hq1
      have z1 := (Same.refl H).new (o := .lst [V.int 2, V.int 10, V.int 19]) hq1
      have u1 := upd_same (H := H) (a := q1) (o := .lst [V.int 2, V.int 10, V.int 19])
      replace x := x.same z1
      have s1 := s0.trans z1
      generalize upd H q1 (.lst [V.int 2, V.int 10, V.int 19]) = H1 at x s1 u1 ⊢
      clear z1 s0
      walk_at "rd"
      intro q2 hq2
      have z2 := (Same.refl H1).new (o := .lst [V.int 3, V.int 18]) hq2
      have u2 := upd_same (H := H1) (a := q2) (o := .lst [V.int 3, V.int 18])
      replace x := x.same z2
      have s2 := s1.trans z2
      generalize upd H1 q2 (.lst [V.int 3, V.int 18]) = H2 at x s2 u2 ⊢
      clear z2 s1
      walk_at "rd"
      intro q3 hq3
      have z3 := (Same.refl H2).new (o := .lst [V.int 4, V.int 16, V.int 24]) hq3
      have u3 := upd_same (H := H2) (a := q3) (o := .lst [V.int 4, V.int 16, V.int 24])
      replace x := x.same z3
      have s3 := s2.trans z3
      generalize upd H2 q3 (.lst [V.int 4, V.int 16, V.int 24]) = H3 at x s3 u3 ⊢
      clear z3 s2
      walk_at "rd"
      intro q4 hq4
      have z4 := (Same.refl H3).new (o := .lst [V.int 5, V.int 9]) hq4
      have u4 := upd_same (H := H3) (a := q4) (o := .lst [V.int 5, V.int 9])
      replace x := x.same z4
      have s4 := s3.trans z4
      generalize upd H3 q4 (.lst [V.int 5, V.int 9]) = H4 at x s4 u4 ⊢
      clear z4 s3
      walk_at "rd"
      intro q5 hq5
      have z5 := (Same.refl H4).new (o := .lst [V.int 6, V.int 8, V.int 15, V.int 22, V.int 23]) hq5
      have u5 := upd_same (H := H4) (a := q5) (o := .lst [V.int 6, V.int 8, V.int 15, V.int 22, V.int 23])
      replace x := x.same z5
      have s5 := s4.trans z5
      generalize upd H4 q5 (.lst [V.int 6, V.int 8, V.int 15, V.int 22, V.int 23]) = H5 at x s5 u5 ⊢
      clear z5 s4
      walk_at "rd"
      exact k _ _ s5 rfl
    · cases hC
      have f_word : PySem.W.findIn K (.ref a.Failed) "word" = some none := T.e_Failed.noF ("word", .inl 0) (by simp [ef_Failed])
      have l_word : List.lookup ("word" : Str) (fieldsE 9 v1 v2) = some v1 := rfl
      have xf := xfc T.e_Failed
      walk_at "rd"
      intro q1 hq1
      have z1 := (Same.refl H).new (o := .lst [V.int 2, V.int 10, V.int 19]) hq1
      have u1 := upd_same (H := H) (a := q1) (o := .lst [V.int 2, V.int 10, V.int 19])
      replace x := x.same z1
      have s1 := s0.trans z1
      generalize upd H q1 (.lst [V.int 2, V.int 10, V.int 19]) = H1 at x s1 u1 ⊢
      clear z1 s0
      walk_at "rd"
      intro q2 hq2
      have z2 := (Same.refl H1).new (o := .lst [V.int 3, V.int 18]) hq2
      have u2 := upd_same (H := H1) (a := q2) (o := .lst [V.int 3, V.int 18])
      replace x := x.same z2
      have s2 := s1.trans z2
      generalize upd H1 q2 (.lst [V.int 3, V.int 18]) = H2 at x s2 u2 ⊢
      clear z2 s1
      walk_at "rd"
      intro q3 hq3
      have z3 := (Same.refl H2).new (o := .lst [V.int 4, V.int 16, V.int 24]) hq3
      have u3 := upd_same (H := H2) (a := q3) (o := .lst [V.int 4, V.int 16, V.int 24])
      replace x := x.same z3
      have s3 := s2.trans z3
      generalize upd H2 q3 (.lst [V.int 4, V.int 16, V.int 24]) = H3 at x s3 u3 ⊢
      clear z3 s2
      walk_at "rd"
      intro q4 hq4
      have z4 := (Same.refl H3).new (o := .lst [V.int 5, V.int 9]) hq4
      have u4 := upd_same (H := H3) (a := q4) (o := .lst [V.int 5, V.int 9])
      replace x := x.same z4
      have s4 := s3.trans z4
      generalize upd H3 q4 (.lst [V.int 5, V.int 9]) = H4 at x s4 u4 ⊢
      clear z4 s3
      walk_at "rd"
      exact k _ _ s4 rfl
    · cases hC
      have f_mode : PySem.W.findIn K (.ref a.Missing) "mode" = some none := T.e_Missing.noF ("mode", .inl 0) (by simp [ef_Missing])
      have l_mode : List.lookup ("mode" : Str) (fieldsE 10 v1 v2) = some v1 := rfl
      have xf := xfc T.e_Missing
      walk_at "rd"
      intro q1 hq1
      have z1 := (Same.refl H).new (o := .lst [V.int 2, V.int 10, V.int 19]) hq1
      have u1 := upd_same (H := H) (a := q1) (o := .lst [V.int 2, V.int 10, V.int 19])
      replace x := x.same z1
      have s1 := s0.trans z1
      generalize upd H q1 (.lst [V.int 2, V.int 10, V.int 19]) = H1 at x s1 u1 ⊢
      clear z1 s0
      walk_at "rd"
      exact k _ _ s1 rfl
    · cases hC
      have xf := xfc T.e_NoBlock
      walk_at "rd"
      intro q1 hq1
      have z1 := (Same.refl H).new (o := .lst [V.int 2, V.int 10, V.int 19]) hq1
      have u1 := upd_same (H := H) (a := q1) (o := .lst [V.int 2, V.int 10, V.int 19])
      replace x := x.same z1
      have s1 := s0.trans z1
      generalize upd H q1 (.lst [V.int 2, V.int 10, V.int 19]) = H1 at x s1 u1 ⊢
      clear z1 s0
      walk_at "rd"
      intro q2 hq2
      have z2 := (Same.refl H1).new (o := .lst [V.int 3, V.int 18]) hq2
      have u2 := upd_same (H := H1) (a := q2) (o := .lst [V.int 3, V.int 18])
      replace x := x.same z2
      have s2 := s1.trans z2
      generalize upd H1 q2 (.lst [V.int 3, V.int 18]) = H2 at x s2 u2 ⊢
      clear z2 s1
      walk_at "rd"
      intro q3 hq3
      have z3 := (Same.refl H2).new (o := .lst [V.int 4, V.int 16, V.int 24]) hq3
      have u3 := upd_same (H := H2) (a := q3) (o := .lst [V.int 4, V.int 16, V.int 24])
      replace x := x.same z3
      have s3 := s2.trans z3
      generalize upd H2 q3 (.lst [V.int 4, V.int 16, V.int 24]) = H3 at x s3 u3 ⊢
      clear z3 s2
      walk_at "rd"
      intro q4 hq4
      have z4 := (Same.refl H3).new (o := .lst [V.int 5, V.int 9]) hq4
      have u4 := upd_same (H := H3) (a := q4) (o := .lst [V.int 5, V.int 9])
      replace x := x.same z4
      have s4 := s3.trans z4
      generalize upd H3 q4 (.lst [V.int 5, V.int 9]) = H4 at x s4 u4 ⊢
      clear z4 s3
      walk_at "rd"
      intro q5 hq5
      have z5 := (Same.refl H4).new (o := .lst [V.int 6, V.int 8, V.int 15, V.int 22, V.int 23]) hq5
      have u5 := upd_same (H := H4) (a := q5) (o := .lst [V.int 6, V.int 8, V.int 15, V.int 22, V.int 23])
      replace x := x.same z5
      have s5 := s4.trans z5
      generalize upd H4 q5 (.lst [V.int 6, V.int 8, V.int 15, V.int 22, V.int 23]) = H5 at x s5 u5 ⊢
      clear z5 s4
      walk_at "rd"
      exact k _ _ s5 rfl
    · cases hC
      have f_number : PySem.W.findIn K (.ref a.NoCall) "number" = some none := T.e_NoCall.noF ("number", .inl 0) (by simp [ef_NoCall])
      have l_number : List.lookup ("number" : Str) (fieldsE 12 v1 v2) = some v1 := rfl
      have xf := xfc T.e_NoCall
      walk_at "rd"
      intro q1 hq1
      have z1 := (Same.refl H).new (o := .lst [V.int 2, V.int 10, V.int 19]) hq1
      have u1 := upd_same (H := H) (a := q1) (o := .lst [V.int 2, V.int 10, V.int 19])
      replace x := x.same z1
      have s1 := s0.trans z1
      generalize upd H q1 (.lst [V.int 2, V.int 10, V.int 19]) = H1 at x s1 u1 ⊢
      clear z1 s0
      walk_at "rd"
      intro q2 hq2
      have z2 := (Same.refl H1).new (o := .lst [V.int 3, V.int 18]) hq2
      have u2 := upd_same (H := H1) (a := q2) (o := .lst [V.int 3, V.int 18])
      replace x := x.same z2
      have s2 := s1.trans z2
      generalize upd H1 q2 (.lst [V.int 3, V.int 18]) = H2 at x s2 u2 ⊢
      clear z2 s1
      walk_at "rd"
      intro q3 hq3
      have z3 := (Same.refl H2).new (o := .lst [V.int 4, V.int 16, V.int 24]) hq3
      have u3 := upd_same (H := H2) (a := q3) (o := .lst [V.int 4, V.int 16, V.int 24])
      replace x := x.same z3
      have s3 := s2.trans z3
      generalize upd H2 q3 (.lst [V.int 4, V.int 16, V.int 24]) = H3 at x s3 u3 ⊢
      clear z3 s2
      walk_at "rd"
      intro q4 hq4
      have z4 := (Same.refl H3).new (o := .lst [V.int 5, V.int 9]) hq4
      have u4 := upd_same (H := H3) (a := q4) (o := .lst [V.int 5, V.int 9])
      replace x := x.same z4
      have s4 := s3.trans z4
      generalize upd H3 q4 (.lst [V.int 5, V.int 9]) = H4 at x s4 u4 ⊢
      clear z4 s3
      walk_at "rd"
      intro q5 hq5
      have z5 := (Same.refl H4).new (o := .lst [V.int 6, V.int 8, V.int 15, V.int 22, V.int 23]) hq5
      have u5 := upd_same (H := H4) (a := q5) (o := .lst [V.int 6, V.int 8, V.int 15, V.int 22, V.int 23])
      replace x := x.same z5
      have s5 := s4.trans z5
      generalize upd H4 q5 (.lst [V.int 6, V.int 8, V.int 15, V.int 22, V.int 23]) = H5 at x s5 u5 ⊢
      clear z5 s4
      walk_at "rd"
      exact k _ _ s5 rfl
    · cases hC
      have f_face : PySem.W.findIn K (.ref a.NoFace) "face" = some none := T.e_NoFace.noF ("face", .inl 0) (by simp [ef_NoFace])
      have l_face : List.lookup ("face" : Str) (fieldsE 13 v1 v2) = some v1 := rfl
      have xf := xfc T.e_NoFace
      walk_at "rd"
      intro q1 hq1
      have z1 := (Same.refl H).new (o := .lst [V.int 2, V.int 10, V.int 19]) hq1
      have u1 := upd_same (H := H) (a := q1) (o := .lst [V.int 2, V.int 10, V.int 19])
      replace x := x.same z1
      have s1 := s0.trans z1
      generalize upd H q1 (.lst [V.int 2, V.int 10, V.int 19]) = H1 at x s1 u1 ⊢
      clear z1 s0
      walk_at "rd"
      intro q2 hq2
      have z2 := (Same.refl H1).new (o := .lst [V.int 3, V.int 18]) hq2
      have u2 := upd_same (H := H1) (a := q2) (o := .lst [V.int 3, V.int 18])
      replace x := x.same z2
      have s2 := s1.trans z2
      generalize upd H1 q2 (.lst [V.int 3, V.int 18]) = H2 at x s2 u2 ⊢
      clear z2 s1
      walk_at "rd"
      intro q3 hq3
      have z3 := (Same.refl H2).new (o := .lst [V.int 4, V.int 16, V.int 24]) hq3
      have u3 := upd_same (H := H2) (a := q3) (o := .lst [V.int 4, V.int 16, V.int 24])
      replace x := x.same z3
      have s3 := s2.trans z3
      generalize upd H2 q3 (.lst [V.int 4, V.int 16, V.int 24]) = H3 at x s3 u3 ⊢
      clear z3 s2
      walk_at "rd"
      intro q4 hq4
      have z4 := (Same.refl H3).new (o := .lst [V.int 5, V.int 9]) hq4
      have u4 := upd_same (H := H3) (a := q4) (o := .lst [V.int 5, V.int 9])
      replace x := x.same z4
      have s4 := s3.trans z4
      generalize upd H3 q4 (.lst [V.int 5, V.int 9]) = H4 at x s4 u4 ⊢
      clear z4 s3
      walk_at "rd"
      intro q5 hq5
      have z5 := (Same.refl H4).new (o := .lst [V.int 6, V.int 8, V.int 15, V.int 22, V.int 23]) hq5
      have u5 := upd_same (H := H4) (a := q5) (o := .lst [V.int 6, V.int 8, V.int 15, V.int 22, V.int 23])
      replace x := x.same z5
      have s5 := s4.trans z5
      generalize upd H4 q5 (.lst [V.int 6, V.int 8, V.int 15, V.int 22, V.int 23]) = H5 at x s5 u5 ⊢
      clear z5 s4
      walk_at "rd"
      exact k _ _ s5 rfl
    · cases hC
      have f_kept : PySem.W.findIn K (.ref a.NoFate) "kept" = some none := T.e_NoFate.noF ("kept", .inl 0) (by simp [ef_NoFate])
      have l_kept : List.lookup ("kept" : Str) (fieldsE 14 v1 v2) = some v1 := rfl
      have xf := xfc T.e_NoFate
      walk_at "rd"
      intro q1 hq1
      have z1 := (Same.refl H).new (o := .lst [V.int 2, V.int 10, V.int 19]) hq1
      have u1 := upd_same (H := H) (a := q1) (o := .lst [V.int 2, V.int 10, V.int 19])
      replace x := x.same z1
      have s1 := s0.trans z1
      generalize upd H q1 (.lst [V.int 2, V.int 10, V.int 19]) = H1 at x s1 u1 ⊢
      clear z1 s0
      walk_at "rd"
      intro q2 hq2
      have z2 := (Same.refl H1).new (o := .lst [V.int 3, V.int 18]) hq2
      have u2 := upd_same (H := H1) (a := q2) (o := .lst [V.int 3, V.int 18])
      replace x := x.same z2
      have s2 := s1.trans z2
      generalize upd H1 q2 (.lst [V.int 3, V.int 18]) = H2 at x s2 u2 ⊢
      clear z2 s1
      walk_at "rd"
      intro q3 hq3
      have z3 := (Same.refl H2).new (o := .lst [V.int 4, V.int 16, V.int 24]) hq3
      have u3 := upd_same (H := H2) (a := q3) (o := .lst [V.int 4, V.int 16, V.int 24])
      replace x := x.same z3
      have s3 := s2.trans z3
      generalize upd H2 q3 (.lst [V.int 4, V.int 16, V.int 24]) = H3 at x s3 u3 ⊢
      clear z3 s2
      walk_at "rd"
      intro q4 hq4
      have z4 := (Same.refl H3).new (o := .lst [V.int 5, V.int 9]) hq4
      have u4 := upd_same (H := H3) (a := q4) (o := .lst [V.int 5, V.int 9])
      replace x := x.same z4
      have s4 := s3.trans z4
      generalize upd H3 q4 (.lst [V.int 5, V.int 9]) = H4 at x s4 u4 ⊢
      clear z4 s3
      walk_at "rd"
      intro q5 hq5
      have z5 := (Same.refl H4).new (o := .lst [V.int 6, V.int 8, V.int 15, V.int 22, V.int 23]) hq5
      have u5 := upd_same (H := H4) (a := q5) (o := .lst [V.int 6, V.int 8, V.int 15, V.int 22, V.int 23])
      replace x := x.same z5
      have s5 := s4.trans z5
      generalize upd H4 q5 (.lst [V.int 6, V.int 8, V.int 15, V.int 22, V.int 23]) = H5 at x s5 u5 ⊢
      clear z5 s4
      walk_at "rd"
      exact k _ _ s5 rfl
    · cases hC
      have f_name : PySem.W.findIn K (.ref a.NoFunction) "name" = some none := T.e_NoFunction.noF ("name", .inl 0) (by simp [ef_NoFunction])
      have l_name : List.lookup ("name" : Str) (fieldsE 15 v1 v2) = some v1 := rfl
      have xf := xfc T.e_NoFunction
      walk_at "rd"
      intro q1 hq1
      have z1 := (Same.refl H).new (o := .lst [V.int 2, V.int 10, V.int 19]) hq1
      have u1 := upd_same (H := H) (a := q1) (o := .lst [V.int 2, V.int 10, V.int 19])
      replace x := x.same z1
      have s1 := s0.trans z1
      generalize upd H q1 (.lst [V.int 2, V.int 10, V.int 19]) = H1 at x s1 u1 ⊢
      clear z1 s0
      walk_at "rd"
      intro q2 hq2
      have z2 := (Same.refl H1).new (o := .lst [V.int 3, V.int 18]) hq2
      have u2 := upd_same (H := H1) (a := q2) (o := .lst [V.int 3, V.int 18])
      replace x := x.same z2
      have s2 := s1.trans z2
      generalize upd H1 q2 (.lst [V.int 3, V.int 18]) = H2 at x s2 u2 ⊢
      clear z2 s1
      walk_at "rd"
      intro q3 hq3
      have z3 := (Same.refl H2).new (o := .lst [V.int 4, V.int 16, V.int 24]) hq3
      have u3 := upd_same (H := H2) (a := q3) (o := .lst [V.int 4, V.int 16, V.int 24])
      replace x := x.same z3
      have s3 := s2.trans z3
      generalize upd H2 q3 (.lst [V.int 4, V.int 16, V.int 24]) = H3 at x s3 u3 ⊢
      clear z3 s2
      walk_at "rd"
      intro q4 hq4
      have z4 := (Same.refl H3).new (o := .lst [V.int 5, V.int 9]) hq4
      have u4 := upd_same (H := H3) (a := q4) (o := .lst [V.int 5, V.int 9])
      replace x := x.same z4
      have s4 := s3.trans z4
      generalize upd H3 q4 (.lst [V.int 5, V.int 9]) = H4 at x s4 u4 ⊢
      clear z4 s3
      walk_at "rd"
      intro q5 hq5
      have z5 := (Same.refl H4).new (o := .lst [V.int 6, V.int 8, V.int 15, V.int 22, V.int 23]) hq5
      have u5 := upd_same (H := H4) (a := q5) (o := .lst [V.int 6, V.int 8, V.int 15, V.int 22, V.int 23])
      replace x := x.same z5
      have s5 := s4.trans z5
      generalize upd H4 q5 (.lst [V.int 6, V.int 8, V.int 15, V.int 22, V.int 23]) = H5 at x s5 u5 ⊢
      clear z5 s4
      walk_at "rd"
      exact k _ _ s5 rfl
    · cases hC
      have f_record : PySem.W.findIn K (.ref a.NoRecord) "record" = some none := T.e_NoRecord.noF ("record", .inl 0) (by simp [ef_NoRecord])
      have l_record : List.lookup ("record" : Str) (fieldsE 16 v1 v2) = some v1 := rfl
      have xf := xfc T.e_NoRecord
      walk_at "rd"
      intro q1 hq1
      have z1 := (Same.refl H).new (o := .lst [V.int 2, V.int 10, V.int 19]) hq1
      have u1 := upd_same (H := H) (a := q1) (o := .lst [V.int 2, V.int 10, V.int 19])
      replace x := x.same z1
      have s1 := s0.trans z1
      generalize upd H q1 (.lst [V.int 2, V.int 10, V.int 19]) = H1 at x s1 u1 ⊢
      clear z1 s0
      walk_at "rd"
      intro q2 hq2
      have z2 := (Same.refl H1).new (o := .lst [V.int 3, V.int 18]) hq2
      have u2 := upd_same (H := H1) (a := q2) (o := .lst [V.int 3, V.int 18])
      replace x := x.same z2
      have s2 := s1.trans z2
      generalize upd H1 q2 (.lst [V.int 3, V.int 18]) = H2 at x s2 u2 ⊢
      clear z2 s1
      walk_at "rd"
      intro q3 hq3
      have z3 := (Same.refl H2).new (o := .lst [V.int 4, V.int 16, V.int 24]) hq3
      have u3 := upd_same (H := H2) (a := q3) (o := .lst [V.int 4, V.int 16, V.int 24])
      replace x := x.same z3
      have s3 := s2.trans z3
      generalize upd H2 q3 (.lst [V.int 4, V.int 16, V.int 24]) = H3 at x s3 u3 ⊢
      clear z3 s2
      walk_at "rd"
      exact k _ _ s3 rfl
    · cases hC
      have f_name : PySem.W.findIn K (.ref a.NoRow) "name" = some none := T.e_NoRow.noF ("name", .inl 0) (by simp [ef_NoRow])
      have l_name : List.lookup ("name" : Str) (fieldsE 17 v1 v2) = some v1 := rfl
      have f_case : PySem.W.findIn K (.ref a.NoRow) "case" = some none := T.e_NoRow.noF ("case", .inl 1) (by simp [ef_NoRow])
      have l_case : List.lookup ("case" : Str) (fieldsE 17 v1 v2) = some v2 := rfl
      have xf := xfc T.e_NoRow
      walk_at "rd"
      intro q1 hq1
      have z1 := (Same.refl H).new (o := .lst [V.int 2, V.int 10, V.int 19]) hq1
      have u1 := upd_same (H := H) (a := q1) (o := .lst [V.int 2, V.int 10, V.int 19])
      replace x := x.same z1
      have s1 := s0.trans z1
      generalize upd H q1 (.lst [V.int 2, V.int 10, V.int 19]) = H1 at x s1 u1 ⊢
      clear z1 s0
      walk_at "rd"
      intro q2 hq2
      have z2 := (Same.refl H1).new (o := .lst [V.int 3, V.int 18]) hq2
      have u2 := upd_same (H := H1) (a := q2) (o := .lst [V.int 3, V.int 18])
      replace x := x.same z2
      have s2 := s1.trans z2
      generalize upd H1 q2 (.lst [V.int 3, V.int 18]) = H2 at x s2 u2 ⊢
      clear z2 s1
      walk_at "rd"
      intro q3 hq3
      have z3 := (Same.refl H2).new (o := .lst [V.int 4, V.int 16, V.int 24]) hq3
      have u3 := upd_same (H := H2) (a := q3) (o := .lst [V.int 4, V.int 16, V.int 24])
      replace x := x.same z3
      have s3 := s2.trans z3
      generalize upd H2 q3 (.lst [V.int 4, V.int 16, V.int 24]) = H3 at x s3 u3 ⊢
      clear z3 s2
      walk_at "rd"
      intro q4 hq4
      have z4 := (Same.refl H3).new (o := .lst [V.int 5, V.int 9]) hq4
      have u4 := upd_same (H := H3) (a := q4) (o := .lst [V.int 5, V.int 9])
      replace x := x.same z4
      have s4 := s3.trans z4
      generalize upd H3 q4 (.lst [V.int 5, V.int 9]) = H4 at x s4 u4 ⊢
      clear z4 s3
      walk_at "rd"
      intro q5 hq5
      have z5 := (Same.refl H4).new (o := .lst [V.int 6, V.int 8, V.int 15, V.int 22, V.int 23]) hq5
      have u5 := upd_same (H := H4) (a := q5) (o := .lst [V.int 6, V.int 8, V.int 15, V.int 22, V.int 23])
      replace x := x.same z5
      have s5 := s4.trans z5
      generalize upd H4 q5 (.lst [V.int 6, V.int 8, V.int 15, V.int 22, V.int 23]) = H5 at x s5 u5 ⊢
      clear z5 s4
      walk_at "rd"
      intro d hd
      exact k _ _ (s5.new hd) ⟨d, rfl, upd_same⟩
    · cases hC
      have f_thing : PySem.W.findIn K (.ref a.NotNow) "thing" = some none := T.e_NotNow.noF ("thing", .inl 0) (by simp [ef_NotNow])
      have l_thing : List.lookup ("thing" : Str) (fieldsE 18 v1 v2) = some v1 := rfl
      have xf := xfc T.e_NotNow
      walk_at "rd"
      intro q1 hq1
      have z1 := (Same.refl H).new (o := .lst [V.int 2, V.int 10, V.int 19]) hq1
      have u1 := upd_same (H := H) (a := q1) (o := .lst [V.int 2, V.int 10, V.int 19])
      replace x := x.same z1
      have s1 := s0.trans z1
      generalize upd H q1 (.lst [V.int 2, V.int 10, V.int 19]) = H1 at x s1 u1 ⊢
      clear z1 s0
      walk_at "rd"
      intro q2 hq2
      have z2 := (Same.refl H1).new (o := .lst [V.int 3, V.int 18]) hq2
      have u2 := upd_same (H := H1) (a := q2) (o := .lst [V.int 3, V.int 18])
      replace x := x.same z2
      have s2 := s1.trans z2
      generalize upd H1 q2 (.lst [V.int 3, V.int 18]) = H2 at x s2 u2 ⊢
      clear z2 s1
      walk_at "rd"
      exact k _ _ s2 rfl
    · cases hC
      have f_mode : PySem.W.findIn K (.ref a.Present) "mode" = some none := T.e_Present.noF ("mode", .inl 0) (by simp [ef_Present])
      have l_mode : List.lookup ("mode" : Str) (fieldsE 19 v1 v2) = some v1 := rfl
      have xf := xfc T.e_Present
      walk_at "rd"
      intro q1 hq1
      have z1 := (Same.refl H).new (o := .lst [V.int 2, V.int 10, V.int 19]) hq1
      have u1 := upd_same (H := H) (a := q1) (o := .lst [V.int 2, V.int 10, V.int 19])
      replace x := x.same z1
      have s1 := s0.trans z1
      generalize upd H q1 (.lst [V.int 2, V.int 10, V.int 19]) = H1 at x s1 u1 ⊢
      clear z1 s0
      walk_at "rd"
      exact k _ _ s1 rfl
    · cases hC
      have xf := xfc T.e_Refused
      walk_at "rd"
      intro q1 hq1
      have z1 := (Same.refl H).new (o := .lst [V.int 2, V.int 10, V.int 19]) hq1
      have u1 := upd_same (H := H) (a := q1) (o := .lst [V.int 2, V.int 10, V.int 19])
      replace x := x.same z1
      have s1 := s0.trans z1
      generalize upd H q1 (.lst [V.int 2, V.int 10, V.int 19]) = H1 at x s1 u1 ⊢
      clear z1 s0
      walk_at "rd"
      intro q2 hq2
      have z2 := (Same.refl H1).new (o := .lst [V.int 3, V.int 18]) hq2
      have u2 := upd_same (H := H1) (a := q2) (o := .lst [V.int 3, V.int 18])
      replace x := x.same z2
      have s2 := s1.trans z2
      generalize upd H1 q2 (.lst [V.int 3, V.int 18]) = H2 at x s2 u2 ⊢
      clear z2 s1
      walk_at "rd"
      intro q3 hq3
      have z3 := (Same.refl H2).new (o := .lst [V.int 4, V.int 16, V.int 24]) hq3
      have u3 := upd_same (H := H2) (a := q3) (o := .lst [V.int 4, V.int 16, V.int 24])
      replace x := x.same z3
      have s3 := s2.trans z3
      generalize upd H2 q3 (.lst [V.int 4, V.int 16, V.int 24]) = H3 at x s3 u3 ⊢
      clear z3 s2
      walk_at "rd"
      intro q4 hq4
      have z4 := (Same.refl H3).new (o := .lst [V.int 5, V.int 9]) hq4
      have u4 := upd_same (H := H3) (a := q4) (o := .lst [V.int 5, V.int 9])
      replace x := x.same z4
      have s4 := s3.trans z4
      generalize upd H3 q4 (.lst [V.int 5, V.int 9]) = H4 at x s4 u4 ⊢
      clear z4 s3
      walk_at "rd"
      intro q5 hq5
      have z5 := (Same.refl H4).new (o := .lst [V.int 6, V.int 8, V.int 15, V.int 22, V.int 23]) hq5
      have u5 := upd_same (H := H4) (a := q5) (o := .lst [V.int 6, V.int 8, V.int 15, V.int 22, V.int 23])
      replace x := x.same z5
      have s5 := s4.trans z5
      generalize upd H4 q5 (.lst [V.int 6, V.int 8, V.int 15, V.int 22, V.int 23]) = H5 at x s5 u5 ⊢
      clear z5 s4
      walk_at "rd"
      exact k _ _ s5 rfl
    · cases hC
      have f_what : PySem.W.findIn K (.ref a.TooMany) "what" = some none := T.e_TooMany.noF ("what", .inl 0) (by simp [ef_TooMany])
      have l_what : List.lookup ("what" : Str) (fieldsE 21 v1 v2) = some v1 := rfl
      have xf := xfc T.e_TooMany
      walk_at "rd"
      intro q1 hq1
      have z1 := (Same.refl H).new (o := .lst [V.int 2, V.int 10, V.int 19]) hq1
      have u1 := upd_same (H := H) (a := q1) (o := .lst [V.int 2, V.int 10, V.int 19])
      replace x := x.same z1
      have s1 := s0.trans z1
      generalize upd H q1 (.lst [V.int 2, V.int 10, V.int 19]) = H1 at x s1 u1 ⊢
      clear z1 s0
      walk_at "rd"
      intro q2 hq2
      have z2 := (Same.refl H1).new (o := .lst [V.int 3, V.int 18]) hq2
      have u2 := upd_same (H := H1) (a := q2) (o := .lst [V.int 3, V.int 18])
      replace x := x.same z2
      have s2 := s1.trans z2
      generalize upd H1 q2 (.lst [V.int 3, V.int 18]) = H2 at x s2 u2 ⊢
      clear z2 s1
      walk_at "rd"
      intro q3 hq3
      have z3 := (Same.refl H2).new (o := .lst [V.int 4, V.int 16, V.int 24]) hq3
      have u3 := upd_same (H := H2) (a := q3) (o := .lst [V.int 4, V.int 16, V.int 24])
      replace x := x.same z3
      have s3 := s2.trans z3
      generalize upd H2 q3 (.lst [V.int 4, V.int 16, V.int 24]) = H3 at x s3 u3 ⊢
      clear z3 s2
      walk_at "rd"
      intro q4 hq4
      have z4 := (Same.refl H3).new (o := .lst [V.int 5, V.int 9]) hq4
      have u4 := upd_same (H := H3) (a := q4) (o := .lst [V.int 5, V.int 9])
      replace x := x.same z4
      have s4 := s3.trans z4
      generalize upd H3 q4 (.lst [V.int 5, V.int 9]) = H4 at x s4 u4 ⊢
      clear z4 s3
      walk_at "rd"
      intro q5 hq5
      have z5 := (Same.refl H4).new (o := .lst [V.int 6, V.int 8, V.int 15, V.int 22, V.int 23]) hq5
      have u5 := upd_same (H := H4) (a := q5) (o := .lst [V.int 6, V.int 8, V.int 15, V.int 22, V.int 23])
      replace x := x.same z5
      have s5 := s4.trans z5
      generalize upd H4 q5 (.lst [V.int 6, V.int 8, V.int 15, V.int 22, V.int 23]) = H5 at x s5 u5 ⊢
      clear z5 s4
      walk_at "rd"
      exact k _ _ s5 rfl
    · cases hC
      have f_name : PySem.W.findIn K (.ref a.Unknown) "name" = some none := T.e_Unknown.noF ("name", .inl 0) (by simp [ef_Unknown])
      have l_name : List.lookup ("name" : Str) (fieldsE 22 v1 v2) = some v1 := rfl
      have xf := xfc T.e_Unknown
      walk_at "rd"
      intro q1 hq1
      have z1 := (Same.refl H).new (o := .lst [V.int 2, V.int 10, V.int 19]) hq1
      have u1 := upd_same (H := H) (a := q1) (o := .lst [V.int 2, V.int 10, V.int 19])
      replace x := x.same z1
      have s1 := s0.trans z1
      generalize upd H q1 (.lst [V.int 2, V.int 10, V.int 19]) = H1 at x s1 u1 ⊢
      clear z1 s0
      walk_at "rd"
      intro q2 hq2
      have z2 := (Same.refl H1).new (o := .lst [V.int 3, V.int 18]) hq2
      have u2 := upd_same (H := H1) (a := q2) (o := .lst [V.int 3, V.int 18])
      replace x := x.same z2
      have s2 := s1.trans z2
      generalize upd H1 q2 (.lst [V.int 3, V.int 18]) = H2 at x s2 u2 ⊢
      clear z2 s1
      walk_at "rd"
      intro q3 hq3
      have z3 := (Same.refl H2).new (o := .lst [V.int 4, V.int 16, V.int 24]) hq3
      have u3 := upd_same (H := H2) (a := q3) (o := .lst [V.int 4, V.int 16, V.int 24])
      replace x := x.same z3
      have s3 := s2.trans z3
      generalize upd H2 q3 (.lst [V.int 4, V.int 16, V.int 24]) = H3 at x s3 u3 ⊢
      clear z3 s2
      walk_at "rd"
      intro q4 hq4
      have z4 := (Same.refl H3).new (o := .lst [V.int 5, V.int 9]) hq4
      have u4 := upd_same (H := H3) (a := q4) (o := .lst [V.int 5, V.int 9])
      replace x := x.same z4
      have s4 := s3.trans z4
      generalize upd H3 q4 (.lst [V.int 5, V.int 9]) = H4 at x s4 u4 ⊢
      clear z4 s3
      walk_at "rd"
      intro q5 hq5
      have z5 := (Same.refl H4).new (o := .lst [V.int 6, V.int 8, V.int 15, V.int 22, V.int 23]) hq5
      have u5 := upd_same (H := H4) (a := q5) (o := .lst [V.int 6, V.int 8, V.int 15, V.int 22, V.int 23])
      replace x := x.same z5
      have s5 := s4.trans z5
      generalize upd H4 q5 (.lst [V.int 6, V.int 8, V.int 15, V.int 22, V.int 23]) = H5 at x s5 u5 ⊢
      clear z5 s4
      walk_at "rd"
      exact k _ _ s5 rfl
    · cases hC
      have f_name : PySem.W.findIn K (.ref a.Unlike) "name" = some none := T.e_Unlike.noF ("name", .inl 0) (by simp [ef_Unlike])
      have l_name : List.lookup ("name" : Str) (fieldsE 23 v1 v2) = some v1 := rfl
      have xf := xfc T.e_Unlike
      walk_at "rd"
      intro q1 hq1
      have z1 := (Same.refl H).new (o := .lst [V.int 2, V.int 10, V.int 19]) hq1
      have u1 := upd_same (H := H) (a := q1) (o := .lst [V.int 2, V.int 10, V.int 19])
      replace x := x.same z1
      have s1 := s0.trans z1
      generalize upd H q1 (.lst [V.int 2, V.int 10, V.int 19]) = H1 at x s1 u1 ⊢
      clear z1 s0
      walk_at "rd"
      intro q2 hq2
      have z2 := (Same.refl H1).new (o := .lst [V.int 3, V.int 18]) hq2
      have u2 := upd_same (H := H1) (a := q2) (o := .lst [V.int 3, V.int 18])
      replace x := x.same z2
      have s2 := s1.trans z2
      generalize upd H1 q2 (.lst [V.int 3, V.int 18]) = H2 at x s2 u2 ⊢
      clear z2 s1
      walk_at "rd"
      intro q3 hq3
      have z3 := (Same.refl H2).new (o := .lst [V.int 4, V.int 16, V.int 24]) hq3
      have u3 := upd_same (H := H2) (a := q3) (o := .lst [V.int 4, V.int 16, V.int 24])
      replace x := x.same z3
      have s3 := s2.trans z3
      generalize upd H2 q3 (.lst [V.int 4, V.int 16, V.int 24]) = H3 at x s3 u3 ⊢
      clear z3 s2
      walk_at "rd"
      intro q4 hq4
      have z4 := (Same.refl H3).new (o := .lst [V.int 5, V.int 9]) hq4
      have u4 := upd_same (H := H3) (a := q4) (o := .lst [V.int 5, V.int 9])
      replace x := x.same z4
      have s4 := s3.trans z4
      generalize upd H3 q4 (.lst [V.int 5, V.int 9]) = H4 at x s4 u4 ⊢
      clear z4 s3
      walk_at "rd"
      intro q5 hq5
      have z5 := (Same.refl H4).new (o := .lst [V.int 6, V.int 8, V.int 15, V.int 22, V.int 23]) hq5
      have u5 := upd_same (H := H4) (a := q5) (o := .lst [V.int 6, V.int 8, V.int 15, V.int 22, V.int 23])
      replace x := x.same z5
      have s5 := s4.trans z5
      generalize upd H4 q5 (.lst [V.int 6, V.int 8, V.int 15, V.int 22, V.int 23]) = H5 at x s5 u5 ⊢
      clear z5 s4
      walk_at "rd"
      exact k _ _ s5 rfl
    · cases hC
      have f_record : PySem.W.findIn K (.ref a.Waits) "record" = some none := T.e_Waits.noF ("record", .inl 0) (by simp [ef_Waits])
      have l_record : List.lookup ("record" : Str) (fieldsE 24 v1 v2) = some v1 := rfl
      have xf := xfc T.e_Waits
      walk_at "rd"
      intro q1 hq1
      have z1 := (Same.refl H).new (o := .lst [V.int 2, V.int 10, V.int 19]) hq1
      have u1 := upd_same (H := H) (a := q1) (o := .lst [V.int 2, V.int 10, V.int 19])
      replace x := x.same z1
      have s1 := s0.trans z1
      generalize upd H q1 (.lst [V.int 2, V.int 10, V.int 19]) = H1 at x s1 u1 ⊢
      clear z1 s0
      walk_at "rd"
      intro q2 hq2
      have z2 := (Same.refl H1).new (o := .lst [V.int 3, V.int 18]) hq2
      have u2 := upd_same (H := H1) (a := q2) (o := .lst [V.int 3, V.int 18])
      replace x := x.same z2
      have s2 := s1.trans z2
      generalize upd H1 q2 (.lst [V.int 3, V.int 18]) = H2 at x s2 u2 ⊢
      clear z2 s1
      walk_at "rd"
      intro q3 hq3
      have z3 := (Same.refl H2).new (o := .lst [V.int 4, V.int 16, V.int 24]) hq3
      have u3 := upd_same (H := H2) (a := q3) (o := .lst [V.int 4, V.int 16, V.int 24])
      replace x := x.same z3
      have s3 := s2.trans z3
      generalize upd H2 q3 (.lst [V.int 4, V.int 16, V.int 24]) = H3 at x s3 u3 ⊢
      clear z3 s2
      walk_at "rd"
      exact k _ _ s3 rfl
/-! ### data that can be shown, bounded -/
structure Okd (d : PyData) (k m : Nat) : Prop where
  s : d.showable = true
  dp : d.depth ≤ k
  l : d.shown.length ≤ m
theorem showAll : ∀ {xs : List PyData}, (∀ x ∈ xs, x.showable = true) → PyData.showableAll xs = true
  | [], _ => rfl
  | x :: xs, h => by
    show (x.showable && PyData.showableAll xs) = true
    rw [h x List.mem_cons_self, showAll fun y hy => h y (List.mem_cons_of_mem _ hy)]; rfl
theorem depAll {k : Nat} : ∀ {xs : List PyData}, (∀ x ∈ xs, x.depth ≤ k) → PyData.depthAll xs ≤ k
  | [], _ => Nat.zero_le _
  | x :: xs, h => by
    show max x.depth (PyData.depthAll xs) ≤ k
    have h1 := h x List.mem_cons_self
    have h2 := depAll fun y hy => h y (List.mem_cons_of_mem _ hy)
    omega
theorem lenAll {m : Nat} : ∀ {xs : List PyData}, (∀ x ∈ xs, x.shown.length ≤ m) → ((PyData.shownAll xs).map (·.length)).sum ≤ xs.length * m ∧ (PyData.shownAll xs).length = xs.length
  | [], _ => ⟨Nat.zero_le _, rfl⟩
  | x :: xs, h => by
    obtain ⟨h1, h2⟩ := lenAll fun y hy => h y (List.mem_cons_of_mem _ hy)
    have h3 := h x List.mem_cons_self
    refine ⟨?_, ?_⟩
    · show x.shown.length + ((PyData.shownAll xs).map (·.length)).sum ≤ (xs.length + 1) * m
      rw [Nat.add_mul]; omega
    · show (PyData.shownAll xs).length + 1 = xs.length + 1
      rw [h2]
theorem Okd.mul {a b n m : Nat} (h : a ≤ n * m + 2 * n + 3) (h2 : n ≤ b) : a ≤ b * (m + 2) + 3 := by
  have : n * (m + 2) ≤ b * (m + 2) := Nat.mul_le_mul_right _ h2
  rw [Nat.mul_add] at this
  omega
theorem Okd.lst {xs : List PyData} {k m n : Nat} (h : ∀ x ∈ xs, Okd x k m) (hn : xs.length ≤ n) : Okd (.list xs) (k + 1) (n * (m + 2) + 3) := by
  obtain ⟨l1, l2⟩ := lenAll (m := m) fun x hx => (h x hx).l
  refine ⟨showAll fun x hx => (h x hx).s, Nat.succ_le_succ (depAll fun x hx => (h x hx).dp), ?_⟩
  have := listText_len_le (PyData.shownAll xs)
  rw [l2] at this
  exact Okd.mul (Nat.le_trans this (Nat.add_le_add_right (Nat.add_le_add_right l1 _) _)) hn
theorem Okd.tup {xs : List PyData} {k m n : Nat} (h : ∀ x ∈ xs, Okd x k m) (hn : xs.length ≤ n) : Okd (.tuple xs) (k + 1) (n * (m + 2) + 3) := by
  obtain ⟨l1, l2⟩ := lenAll (m := m) fun x hx => (h x hx).l
  refine ⟨showAll fun x hx => (h x hx).s, Nat.succ_le_succ (depAll fun x hx => (h x hx).dp), ?_⟩
  have := tupleText_len_le (PyData.shownAll xs)
  rw [l2] at this
  exact Okd.mul (Nat.le_trans this (Nat.add_le_add_right (Nat.add_le_add_right l1 _) _)) hn
theorem kvAll {k m : Nat} : ∀ {xs : List (PyData × PyData)}, (∀ x ∈ xs, Okd x.1 k m ∧ Okd x.2 k m) → PyData.showableKv xs = true ∧ PyData.depthKv xs ≤ k ∧ ((PyData.shownKv xs).map (·.length)).sum ≤ xs.length * (2 * m + 2) ∧ (PyData.shownKv xs).length = xs.length
  | [], _ => ⟨rfl, Nat.zero_le _, Nat.zero_le _, rfl⟩
  | (a, b) :: xs, h => by
    obtain ⟨h1, h2, h3, h4⟩ := kvAll fun y hy => h y (List.mem_cons_of_mem _ hy)
    obtain ⟨h5, h6⟩ := h (a, b) List.mem_cons_self
    refine ⟨?_, ?_, ?_, ?_⟩
    · show (a.showable && b.showable && PyData.showableKv xs) = true
      rw [h1, h5.s, h6.s]; rfl
    · show max (max a.depth b.depth) (PyData.depthKv xs) ≤ k
      have := h5.dp
      have := h6.dp
      dsimp only at *
      omega
    · show (a.shown ++ ": " ++ b.shown).length + ((PyData.shownKv xs).map (·.length)).sum ≤ (xs.length + 1) * (2 * m + 2)
      have e : (a.shown ++ ": " ++ b.shown).length = a.shown.length + 2 + b.shown.length := by
        rw [Str.length_append, Str.length_append]
        have : ((": " : Str)).length = 2 := by decide +kernel
        rw [this]
      rw [e, Nat.add_mul]
      have := h5.l
      have := h6.l
      dsimp only at *
      omega
    · show (PyData.shownKv xs).length + 1 = xs.length + 1
      rw [h4]
theorem Okd.dct {xs : List (PyData × PyData)} {k m n : Nat} (h : ∀ x ∈ xs, Okd x.1 k m ∧ Okd x.2 k m) (hn : xs.length ≤ n) : Okd (.dict xs) (k + 1) (n * (2 * m + 2 + 2) + 3) := by
  obtain ⟨h1, h2, h3, h4⟩ := kvAll h
  refine ⟨h1, Nat.succ_le_succ h2, ?_⟩
  have := dictText_len_le (PyData.shownKv xs)
  rw [h4] at this
  exact Okd.mul (Nat.le_trans this (Nat.add_le_add_right (Nat.add_le_add_right h3 _) _)) hn
theorem Okd.up {d : PyData} {k m k' m' : Nat} (h : Okd d k m) (h1 : k ≤ k') (h2 : m ≤ m') : Okd d k' m' := ⟨h.s, Nat.le_trans h.dp h1, Nat.le_trans h.l h2⟩
theorem okd_word {z : Str} (h : IsWord z) : Okd (.str z) 0 100 := by
  refine ⟨rfl, Nat.le_refl 0, ?_⟩
  show (reprText z).length ≤ 100
  have := StrLaws.reprText_len z fun c hc => by have := h.al c hc; omega
  have h2 := h.hi
  rw [len_toList] at h2
  omega
theorem okd_non : Okd .none 0 100 := ⟨rfl, Nat.le_refl 0, by show ("None" : Str).length ≤ 100; decide +kernel⟩
theorem okd_bool (b : Bool) : Okd (.bool b) 0 100 := ⟨rfl, Nat.le_refl 0, by cases b <;> decide +kernel⟩
theorem log_120 {i : Int} (h : i.natAbs < 2 ^ 120) : i.natAbs.log2 < 1920 := by
  by_cases h0 : i.natAbs = 0
  · rw [h0]; decide
  · exact (Nat.log2_lt h0).mpr (Nat.lt_of_lt_of_le h (Nat.pow_le_pow_right (by decide) (by decide)))
theorem okd_int {i : Int} (h : i.natAbs < 2 ^ 120) : Okd (.int i) 0 4000 := by
  have hl := log_120 h
  refine ⟨decide_eq_true hl, Nat.le_refl 0, ?_⟩
  show (Str.ofString (toString i)).length ≤ 4000
  have e := int_text_length_le (k := 1920) (by decide) hl
  rw [ofString_length]; omega
/-! ### k88: things -/
structure Ike (p : Addr) (H H' : Hp) : Prop where
  t : ∀ q xs, H q = some (.tup xs) → H' q = some (.tup xs)
  l : ∀ q xs, q ≠ p → H q = some (.lst xs) → H' q = some (.lst xs)
theorem Ike.same {p : Addr} {H H' : Hp} (s : Same H H') : Ike p H H' := ⟨fun q xs h => s _ _ h, fun q xs _ h => s _ _ h⟩
theorem Ike.pool {p : Addr} {H H' : Hp} {o : HO} {c : Nat} (hp : H p = some o) (ho : PoolO o c) (k : Kp (fun b => b = p) H H') : Ike p H H' := by
  obtain ⟨x, y, z, e, _⟩ := ho
  exact ⟨fun q xs h => k _ _ h (fun e2 => by rw [e2, hp, e] at h; cases h), fun q xs n h => k _ _ h n⟩
theorem Ike.trans {p : Addr} {H H1 H2 : Hp} (a : Ike p H H1) (b : Ike p H1 H2) : Ike p H H2 := ⟨fun q xs h => b.t q xs (a.t q xs h), fun q xs n h => b.l q xs n (a.l q xs n h)⟩
def WordE (z : Str) : Prop := IsWord z ∨ z = ""
/-- a thing that the law draws -/
inductive ThE (p : Addr) (H : Hp) : V → PyData → Prop
  | str (z : Str) (h : WordE z) : ThE p H (.str z) (.str z)
  | non : ThE p H .non .none
  | int (i : Int) (h : i.natAbs < 2 ^ 120) : ThE p H (.int i) (.int i)
  | tru : ThE p H (.bl true) (.bool true)
  | pair (q : Addr) (z : Str) (h : IsWord z) (hq : H q = some (.tup [.str z, .int 1])) : ThE p H (.ref q) (.tuple [.str z, .int 1])
  | one (q : Addr) (z : Str) (h : IsWord z) (n : q ≠ p) (hq : H q = some (.lst [.str z])) : ThE p H (.ref q) (.list [.str z])
  | open_ (q q1 q2 : Addr) (z : Str) (h : IsWord z) (hq : H q = some (.tup [.str "open", .ref q1, .ref q2])) (h1 : H q1 = some (.tup [])) (h2 : H q2 = some (.tup [.str z])) : ThE p H (.ref q) (.tuple [.str "open", .tuple [], .tuple [.str z]])
theorem ThE.ike {p : Addr} {H H' : Hp} {v : V} {d : PyData} (h : ThE p H v d) (s : Ike p H H') : ThE p H' v d := by
  cases h with
  | str z h => exact .str z h
  | non => exact .non
  | int i h => exact .int i h
  | tru => exact .tru
  | pair q z h hq => exact .pair q z h (s.t _ _ hq)
  | one q z h n hq => exact .one q z h n (s.l _ _ n hq)
  | open_ q q1 q2 z h hq h1 h2 => exact .open_ q q1 q2 z h (s.t _ _ hq) (s.t _ _ h1) (s.t _ _ h2)
theorem ThE.dq {K : PySem.W.Frag} {p : Addr} {H : Hp} {v : V} {d : PyData} (h : ThE p H v d) : Dq K H v d := by
  cases h with
  | str z h => exact .str z
  | non => exact .non
  | int i h => exact .int i
  | tru => exact .bl true
  | pair q z h hq => exact .tup (SqT.of hq) (.cons (.str z) (.cons (.int 1) .nil))
  | one q z h n hq => exact .lst (SqL.of hq) (.cons (.str z) .nil)
  | open_ q q1 q2 z h hq h1 h2 => exact .tup (SqT.of hq) (.cons (.str _) (.cons (.tup (SqT.of h1) .nil) (.cons (.tup (SqT.of h2) (.cons (.str z) .nil)) .nil)))
theorem ThE.dp {K : PySem.W.Frag} {p : Addr} {H : Hp} {v : V} {d : PyData} (h : ThE p H v d) : Dp K H v d := by
  cases h with
  | str z h => exact .str z
  | non => exact .non
  | int i h => exact .int i
  | tru => exact .bl true
  | pair q z h hq => exact .tup (SqT.of hq) (.cons (.str z) (.cons (.int 1) .nil))
  | one q z h n hq => exact .lst (SqL.of hq) (.cons (.str z) .nil)
  | open_ q q1 q2 z h hq h1 h2 => exact .tup (SqT.of hq) (.cons (.str _) (.cons (.tup (SqT.of h1) .nil) (.cons (.tup (SqT.of h2) (.cons (.str z) .nil)) .nil)))
theorem WordE.asc {z : Str} (h : WordE z) : asc z := by
  rcases h with h | rfl
  · exact fun c hc => by have := h.al c hc; omega
  · unfold Ic.asc; decide +kernel
theorem IsWord.ascE {z : Str} (h : IsWord z) : asc z := fun c hc => by have := h.al c hc; omega
theorem ThE.shaped {p : Addr} {H : Hp} {v : V} {d : PyData} (h : ThE p H v d) : SeqAt.shaped d = true := by
  cases h with
  | str z h =>
    show (PyData.strOk z && decide (0 ≤ 64)) = true
    rw [asc_ok h.asc]; rfl
  | non => rfl
  | int i h => rfl
  | tru => rfl
  | pair q z h hq =>
    show ((PyData.strOk z && (true && true)) && decide (max 0 (max 0 0) + 1 ≤ 64)) = true
    rw [asc_ok h.ascE]; rfl
  | one q z h n hq =>
    show ((PyData.strOk z && true) && decide (max 0 0 + 1 ≤ 64)) = true
    rw [asc_ok h.ascE]; rfl
  | open_ q q1 q2 z h hq h1 h2 =>
    show ((PyData.strOk "open" && (true && ((PyData.strOk z && true) && true))) && decide (max 0 (max (0 + 1) (max (max 0 0 + 1) 0)) + 1 ≤ 64)) = true
    rw [asc_ok h.ascE, show PyData.strOk "open" = true by decide +kernel]; rfl
theorem ThE.okd {p : Addr} {H : Hp} {v : V} {d : PyData} (h : ThE p H v d) : Okd d 2 20000 := by
  have sm : ∀ z : Str, WordE z → Okd (.str z) 0 4000 := fun z h => by
    rcases h with h | rfl
    · exact (okd_word h).up (Nat.le_refl _) (by omega)
    · exact ⟨rfl, Nat.le_refl _, by show (reprText "").length ≤ 4000; decide +kernel⟩
  have op : Okd (.str "open") 0 4000 := ⟨rfl, Nat.le_refl _, by show (reprText "open").length ≤ 4000; decide +kernel⟩
  cases h with
  | str z h => exact (sm z h).up (by omega) (by omega)
  | non => exact okd_non.up (by omega) (by omega)
  | int i h => exact (okd_int h).up (by omega) (by omega)
  | tru => exact (okd_bool _).up (by omega) (by omega)
  | pair q z h hq =>
    refine (Okd.tup (k := 0) (m := 4000) (n := 2) (fun x hx => ?_) (Nat.le_refl _)).up (by omega) (by omega)
    simp only [List.mem_cons, List.not_mem_nil, or_false] at hx
    rcases hx with rfl | rfl
    · exact sm z (.inl h)
    · exact okd_int (by decide)
  | one q z h n hq =>
    refine (Okd.lst (k := 0) (m := 4000) (n := 1) (fun x hx => ?_) (Nat.le_refl _)).up (by omega) (by omega)
    simp only [List.mem_cons, List.not_mem_nil, or_false] at hx
    subst hx
    exact sm z (.inl h)
  | open_ q q1 q2 z h hq h1 h2 =>
    have e1 : Okd (.tuple []) 1 4005 := (Okd.tup (k := 0) (m := 4000) (n := 1) (fun x hx => by simp at hx) (Nat.zero_le _)).up (by omega) (by omega)
    have e2 : Okd (.tuple [.str z]) 1 4005 := (Okd.tup (k := 0) (m := 4000) (n := 1) (fun x hx => by
      simp only [List.mem_cons, List.not_mem_nil, or_false] at hx
      subst hx
      exact sm z (.inl h)) (Nat.le_refl _)).up (by omega) (by omega)
    refine (Okd.tup (k := 1) (m := 4005) (n := 3) (fun x hx => ?_) (Nat.le_refl _)).up (by omega) (by omega)
    simp only [List.mem_cons, List.not_mem_nil, or_false] at hx
    rcases hx with rfl | rfl | rfl
    · exact op.up (by omega) (by omega)
    · exact e1
    · exact e2
def spThing (K : PySem.W.Frag) : Sp := fun vs H Q _ => ∃ p o c, vs = [.ref p] ∧ H p = some o ∧ PoolO o c ∧ c < 2 ^ 30 ∧ ∀ H' o' v d, Ike p H H' → Kp (fun b => b = p) H H' → H' p = some o' → PoolO o' (c + 20) → ThE p H' v d → Q v H'
theorem ok_law_thing (T : Txt K mg a d) : FnOk P w K mg base CX0 3 a.law_thing d.law_thing ["_law_pool_here"] (spThing K) := by
  have G_law_draw : FnOk P w K mg base CX0 1 a.law_draw d.law_draw ["_law_pool_here", "_law_many"] spDraw := ok_law_draw T
  have G_law_word : FnOk P w K mg base CX0 2 a.law_word d.law_word ["_law_pool_here"] spWord := ok_law_word T
  refine T.law_thing.ok sc_law_thing (fun vs H Q E h => ?_) (fun cdv A outer s H vs Q E hr h => ?_)
  · obtain ⟨p, o, c, rfl, _⟩ := h
    rfl
  · obtain ⟨p, o, c, rfl, hp, ho, hc, k⟩ := h
    refine ⟨_, (pss_cons (ps_set (i := 1) sc_law_thing.nd rfl (Or.inl rfl) (pe_call G_law_word (hr.mono (by decide)) (by rfl) T.g_law_word T.law_word.kp T.b_law_word .nil pass0 (pa_cons (pv 0) pa_nil)))
  (pss_cons (ps_set (i := 2) sc_law_thing.nd rfl (Or.inl rfl) (pe_lst (pa_cons (pv 1) (pa_cons pe_non (pa_cons (pe_op op_sub (pe_call G_law_draw (hr.mono (by decide)) (by rfl) T.g_law_draw T.law_draw.kp T.b_law_draw .nil pass0 (pa_cons (pv 0) (pa_cons pe_int pa_nil))) pe_int) (pa_cons pe_bl (pa_cons (pe_tup (pa_cons (pv 1) (pa_cons pe_int pa_nil))) (pa_cons (pe_lst (pa_cons (pv 1) pa_nil)) (pa_cons pe_str (pa_cons (pe_tup (pa_cons pe_str (pa_cons (pe_tup pa_nil) (pa_cons (pe_tup (pa_cons (pv 1) pa_nil)) pa_nil)))) pa_nil))))))))))
  (pss_one (ps_ret (pe_ix ix_list (pv 2) (pe_call G_law_draw (hr.mono (by decide)) (by rfl) T.g_law_draw T.law_draw.kp T.b_law_draw .nil pass0 (pa_cons (pv 0) (pa_cons pe_int pa_nil))) (fun _ _ => rfl)))))), ?_⟩
    try dsimp only [cxOf]
    walk_at "rd"
    intro w1 o1 H1 hw1 h1 hp1 kp1
    have i1 := Ike.pool hp ho kp1
    walk_at "rd"
    intro r2 o2 r20 r21 h2
    have kp2 : Kp (fun b => b = p) H (upd H1 p o2) := kp1.trans Kp.refl.set1
    have i2 := i1.trans (Ike.pool hp1 h1 (H' := upd H1 p o2) Kp.refl.set1)
    have hp2 := upd_same (H := H1) (a := p) (o := o2)
    generalize upd H1 p o2 = H2 at kp2 i2 hp2 ⊢
    walk_at "rd"
    intro q3 hq3
    walk_at "rd"
    intro q4 hq4
    walk_at "rd"
    intro q5 hq5
    walk_at "rd"
    intro q6 hq6
    walk_at "rd"
    intro q7 hq7
    walk_at "rd"
    intro q8 hq8
    have n4 : q4 ≠ p := Ne.symm (ne_of_none (upd_old hp2 hq3) hq4)
    have s3 := (Same.refl H2).new (o := .tup [.str w1, .int 1]) hq3
    have u3 := upd_same (H := H2) (a := q3) (o := .tup [.str w1, .int 1])
    generalize upd H2 q3 (.tup [.str w1, .int 1]) = H3 at s3 u3 hq4 hq5 hq6 hq7 hq8 ⊢
    have s4 := s3.new (o := .lst [.str w1]) hq4
    have u4 := upd_same (H := H3) (a := q4) (o := .lst [.str w1])
    have u3 := upd_old (o := .lst [.str w1]) u3 hq4
    generalize upd H3 q4 (.lst [.str w1]) = H4 at s4 u3 u4 hq5 hq6 hq7 hq8 ⊢
    have s5 := s4.new (o := .tup []) hq5
    have u5 := upd_same (H := H4) (a := q5) (o := .tup [])
    have u3 := upd_old (o := .tup []) u3 hq5
    have u4 := upd_old (o := .tup []) u4 hq5
    generalize upd H4 q5 (.tup []) = H5 at s5 u3 u4 u5 hq6 hq7 hq8 ⊢
    have s6 := s5.new (o := .tup [.str w1]) hq6
    have u6 := upd_same (H := H5) (a := q6) (o := .tup [.str w1])
    have u3 := upd_old (o := .tup [.str w1]) u3 hq6
    have u4 := upd_old (o := .tup [.str w1]) u4 hq6
    have u5 := upd_old (o := .tup [.str w1]) u5 hq6
    generalize upd H5 q6 (.tup [.str w1]) = H6 at s6 u3 u4 u5 u6 hq7 hq8 ⊢
    have s7 := s6.new (o := .tup [.str "open", .ref q5, .ref q6]) hq7
    have u7 := upd_same (H := H6) (a := q7) (o := .tup [.str "open", .ref q5, .ref q6])
    have u3 := upd_old (o := .tup [.str "open", .ref q5, .ref q6]) u3 hq7
    have u4 := upd_old (o := .tup [.str "open", .ref q5, .ref q6]) u4 hq7
    have u5 := upd_old (o := .tup [.str "open", .ref q5, .ref q6]) u5 hq7
    have u6 := upd_old (o := .tup [.str "open", .ref q5, .ref q6]) u6 hq7
    generalize upd H6 q7 (.tup [.str "open", .ref q5, .ref q6]) = H7 at s7 u3 u4 u5 u6 u7 hq8 ⊢
    obtain ⟨xs, exs⟩ : ∃ xs, xs = [V.str w1, .non, .int (r2 - 50), .bl true, .ref q3, .ref q4, .str "", .ref q7] := ⟨_, rfl⟩
    generalize hH8 : upd H7 q8 _ = H8
    have s8 : Same H2 H8 := by rw [← hH8]; exact s7.new hq8
    have u8 : H8 q8 = some (.lst xs) := by rw [← hH8, exs]; exact upd_same
    have t8 : Same H7 H8 := by rw [← hH8]; exact (Same.refl _).new hq8
    clear hH8
    have np8 : q8 ≠ p := fun e => by rw [e, s7 _ _ hp2] at hq8; cases hq8
    have hp8 := s8 _ _ hp2
    have lx : (xs.length : Int) = 8 := by rw [exs]; rfl
    have th : ∀ r : Int, 0 ≤ r → r < 8 → ∃ v d, atI xs r = some v ∧ ThE p H8 v d := by
      intro r r0 r8
      rw [exs]
      rcases (by omega : r = 0 ∨ r = 1 ∨ r = 2 ∨ r = 3 ∨ r = 4 ∨ r = 5 ∨ r = 6 ∨ r = 7) with rfl | rfl | rfl | rfl | rfl | rfl | rfl | rfl
      · exact ⟨_, _, rfl, .str w1 (.inl hw1)⟩
      · exact ⟨_, _, rfl, .non⟩
      · refine ⟨_, _, rfl, .int _ ?_⟩
        have : (r2 - 50).natAbs < 100 := by omega
        exact Nat.lt_of_lt_of_le this (Nat.le_trans (by decide : 100 ≤ 2 ^ 7) (Nat.pow_le_pow_right (by decide) (by decide)))
      · exact ⟨_, _, rfl, .tru⟩
      · exact ⟨_, _, rfl, .pair q3 w1 hw1 (t8 _ _ u3)⟩
      · exact ⟨_, _, rfl, .one q4 w1 hw1 n4 (t8 _ _ u4)⟩
      · exact ⟨_, _, rfl, .str "" (.inr rfl)⟩
      · exact ⟨_, _, rfl, .open_ q7 q5 q6 w1 hw1 (t8 _ _ u7) (t8 _ _ u5) (t8 _ _ u6)⟩
    walk_at "rd"
    intro r9 o9 r90 r91 h9
    obtain ⟨v, d, av, tv⟩ := th r9 r90 r91
    have u9 := upd_oth (o := o9) np8 u8
    have kp9 : Kp (fun b => b = p) H8 (upd H8 p o9) := Kp.refl.set1
    have i9 := Ike.pool hp8 h2 kp9
    have hp9 := upd_same (H := H8) (a := p) (o := o9)
    generalize upd H8 p o9 = H9 at u9 kp9 i9 hp9 ⊢
    walk_at "rd"
    exact k _ o9 v d ((i2.trans (.same s8)).trans i9) ((kp2.trans (.of_same s8)).trans kp9) hp9 (h9.mono (by omega)) (tv.ike i9)
/-! ### k88: the law -/
def spLaw (K : PySem.W.Frag) : Sp := fun vs H Q _ => ∃ (p : Addr) (ns : List Int), vs = [.ref p] ∧ SqL K H p (ns.map V.int) ∧ ns.length ≤ 63 ∧ ∀ H', Q (.bl true) H'
/-- the pool and what else stands -/
structure P14 (H0 H : Hp) (p : Addr) (c : Nat) : Prop where
  same : Same H0 H
  pool : ∃ o, H p = some o ∧ PoolO o c
  fr : H0 p = none
theorem P14.keep {H0 H H' : Hp} {p : Addr} {c : Nat} (h : P14 H0 H p c) (s : Same H H') : P14 H0 H' p c := by
  obtain ⟨o, h1, h2⟩ := h.pool
  exact ⟨h.same.trans s, ⟨o, s _ _ h1, h2⟩, h.fr⟩
theorem P14.draw {H0 H H' : Hp} {p : Addr} {c c' : Nat} {o' : HO} (h : P14 H0 H p c) (k : Kp (fun b => b = p) H H') (hp : H' p = some o') (ho : PoolO o' c') : P14 H0 H' p c' :=
  ⟨Kp.same h.same k fun b e => e ▸ h.fr, ⟨o', hp, ho⟩, h.fr⟩
theorem Ps.app {a : Ad} {H : Hp} {v1 v2 : V} {n : Nat} {xs ys : List Addr} (h1 : Ps a H v1 v2 0 xs) (h2 : Ps a H v1 v2 n ys) (en : n = xs.length) : Ps a H v1 v2 0 (xs ++ ys) := by
  intro j t e
  by_cases l : j < xs.length
  · rw [List.getElem?_append_left l] at e
    exact h1 j t e
  · rw [List.getElem?_append_right (by omega)] at e
    have := h2 _ t e
    rw [show n + (j - xs.length) = 0 + j by omega] at this
    exact this
def dueD (i : Nat) (d1 d2 : PyData) : PyData := if i = 11 ∨ i = 20 then .none else if i = 17 then .tuple [d1, d2] else d1
theorem due_dq {K : PySem.W.Frag} {p : Addr} {H : Hp} {i : Nat} {v1 v2 r : V} {d1 d2 : PyData} (h1 : ThE p H v1 d1) (h2 : ThE p H v2 d2) (h : DueI H i v1 v2 r) : Dq K H r (dueD i d1 d2) := by
  unfold DueI at h
  unfold dueD
  split
  · rename_i c; rw [if_pos c] at h; subst h; exact .non
  · rename_i c
    rw [if_neg c] at h
    split
    · rename_i c2
      rw [if_pos c2] at h
      obtain ⟨q, rfl, hq⟩ := h
      exact .tup (SqT.of hq) (.cons h1.dq (.cons h2.dq .nil))
    · rename_i c2; rw [if_neg c2] at h; subst h; exact h1.dq
theorem due_ok {p : Addr} {H : Hp} {i : Nat} {v1 v2 : V} {d1 d2 : PyData} (h1 : ThE p H v1 d1) (h2 : ThE p H v2 d2) : (dueD i d1 d2).showable = true ∧ (dueD i d1 d2).depth ≤ 60 ∧ (dueD i d1 d2).shown.length ≤ sizeLine := by
  have k : Okd (dueD i d1 d2) 3 50000 := by
    unfold dueD
    split
    · exact okd_non.up (by omega) (by omega)
    · split
      · refine (Okd.tup (k := 2) (m := 20000) (n := 2) (fun x hx => ?_) (Nat.le_refl _)).up (by omega) (by omega)
        simp only [List.mem_cons, List.not_mem_nil, or_false] at hx
        rcases hx with rfl | rfl
        · exact h1.okd
        · exact h2.okd
      · exact h1.okd.up (by omega) (by omega)
  exact ⟨k.s, by have := k.dp; omega, by have := k.l; rw [sizeLine_eq]; omega⟩
theorem dp_bls {K : PySem.W.Frag} {H : Hp} (f : Nat → Bool) : ∀ l : List Nat, DpAll K H (l.map fun j => V.bl (f j)) (l.map fun j => PyData.bool (f j))
  | [] => .nil
  | y :: r => .cons (.bl _) (dp_bls f r)
theorem lay_bls (f : Nat → Bool) : ∀ l : List Nat, PyData.canLayAll0 (l.map fun j => PyData.bool (f j)) = true
  | [] => rfl
  | y :: r => by
    show (true && PyData.canLayAll0 (r.map fun j => PyData.bool (f j))) = true
    rw [lay_bls f r]; rfl
theorem depth_bls (f : Nat → Bool) : ∀ l : List Nat, PyData.depthAll (l.map fun j => PyData.bool (f j)) = 0
  | [] => rfl
  | y :: r => by
    show max 0 (PyData.depthAll (r.map fun j => PyData.bool (f j))) = 0
    rw [depth_bls f r]; rfl
theorem shaped_bls (f : Nat → Bool) (l : List Nat) : SeqAt.shaped (.list (l.map fun j => PyData.bool (f j))) = true := by
  show (PyData.canLayAll0 (l.map fun j => PyData.bool (f j)) && decide (PyData.depthAll (l.map fun j => PyData.bool (f j)) + 1 ≤ 64)) = true
  rw [lay_bls, depth_bls]; rfl
def wIx : List Nat := [7, 10, 19, 20, 24]
def wTx : List Str := ["doomed", "missing", "present", "refused", "waits"]
theorem word_at (T : Txt K mg a d) {H : Hp} {v1 v2 : V} {j i : Nat} {z : Str} {e : Addr} (hj : wIx[j]? = some i) (hz : wTx[j]? = some z) (h : ErrI a H i v1 v2 e) :
    ∃ C fs, ExV H e C fs ∧ XfC K C ∧ PySem.W.findIn K (.ref C) "word" = some none ∧ fs.lookup ("word" : Str) = some (V.str z) := by
  obtain ⟨C, hC, x⟩ := h
  rcases j with _ | _ | _ | _ | _ | j
  · cases hj; cases hz; cases hC
    exact ⟨_, _, x, xfc T.e_Doomed, T.e_Doomed.noF ("word", .inr "doomed") (by simp [ef_Doomed]), rfl⟩
  · cases hj; cases hz; cases hC
    exact ⟨_, _, x, xfc T.e_Missing, T.e_Missing.noF ("word", .inr "missing") (by simp [ef_Missing]), rfl⟩
  · cases hj; cases hz; cases hC
    exact ⟨_, _, x, xfc T.e_Present, T.e_Present.noF ("word", .inr "present") (by simp [ef_Present]), rfl⟩
  · cases hj; cases hz; cases hC
    exact ⟨_, _, x, xfc T.e_Refused, T.e_Refused.noF ("word", .inr "refused") (by simp [ef_Refused]), rfl⟩
  · cases hj; cases hz; cases hC
    exact ⟨_, _, x, xfc T.e_Waits, T.e_Waits.noF ("word", .inr "waits") (by simp [ef_Waits]), rfl⟩
  · simp [wIx] at hj
theorem gid_l (zs : List V) (h : zs.length = 1) : (gid zs).length = 1 := h
theorem gsw_l : ∀ zs : List V, zs.length = 2 → (gsw zs).length = 2
  | [_, _], _ => rfl
def tXv (K : PySem.W.Frag) (te : TE) (n : Str) : TE := fun σ H Q => te σ H fun x H1 => ∃ (a C : Addr) (fs : List (Str × V)) (v : V), x = .ref a ∧ ExV H1 a C fs ∧ XfC K C ∧ PySem.W.findIn K (.ref C) n = some none ∧ fs.lookup n = some v ∧ Q v H1
theorem pe_xvK {X : Cx} {K : PySem.W.Frag} {e : Expr} {te : TE} {n : Str} {pos : Pos} (hK : X.K = K) (he : PE X e te) (hb : attributeBase e n X.env (eval e X.env) = eval e X.env := by rfl) :
    PE X (.Attribute e n pos) (tXv K te n) := hK ▸ pe_xv he hb
theorem base_at (T : Txt K mg a d) {i : Nat} {C : Addr} (h : (clsA a)[i]? = some C) : PySem.W.kitOne K (.ref C) (.ref a.InnercommitsError) = some true ∧ PySem.W.kitOne K (.ref C) (.type "ValueError") = some true := by
  have h1 := List.all_eq_true.mp T.kb C (List.mem_of_getElem? h)
  rw [Bool.and_eq_true, decide_eq_true_eq, decide_eq_true_eq] at h1
  exact h1
theorem nene (z : V) : (!decide (z = z)) = false := by simp
theorem atRef {ts : List Addr} {j : Nat} {t : Addr} (h : ts[j]? = some t) : atI (ts.map V.ref) (j : Int) = some (.ref t) := atI_nat (by rw [List.getElem?_map, h]; rfl)
theorem ok_law (T : Txt K mg a d) : FnG P w K mg base CX0 9 a.law d.law ["_law_script"] (spLaw K) := by
  have G_law_pool : FnOk P w K mg base CX0 1 a.law_pool d.law_pool ["_law_script", "_law_at"] (spPool K) := ok_law_pool T
  have G_law_thing : FnOk P w K mg base CX0 3 a.law_thing d.law_thing ["_law_pool_here"] (spThing K) := ok_law_thing T
  have G_law_first : FnOk P w K mg base CX0 3 a.law_first d.law_first ["_law_one", "_law_two"] (sp_first a) := ok_law_first T
  have G_law_second : FnOk P w K mg base CX0 3 a.law_second d.law_second ["_law_one", "_law_two"] (sp_second a) := ok_law_second T
  have G_law_classes : FnOk P w K mg base CX0 2 a.law_classes d.law_classes ["_law_e"] (spCls a) := ok_law_classes T
  have G_law_fields : FnOk P w K mg base CX0 2 a.law_fields d.law_fields ["_law_e", "_law_k"] (spFld a) := ok_law_fields T
  have rB : ∀ u, RelV (V.ref a.InnercommitsError) u → u = Value.ref a.InnercommitsError := fun u h => h
  refine okG T.law sc_law (fun vs H Q E h => ?_) (fun cdv A outer s H vs Q E hr hgd h => ?_)
  · obtain ⟨p, ns, rfl, _⟩ := h
    rfl
  · obtain ⟨sa, ns, rfl, hS, hl, k⟩ := h
    refine ⟨_, (pss_cons (ps_for PassesOwn.never rfl (pi_range1 (by rfl) T.n_range (pa_cons (pe_callB (call_max2 rfl) (by rfl) T.n_max (by decide +kernel) (pa_cons pe_int (pa_cons (pe_callB (call_min2 rfl) (by rfl) T.n_min (by decide +kernel) (pa_cons pe_int (pa_cons (pe_callB call_len_seq (by rfl) T.n_len PySem.boot_len (pa_cons (pv 0) pa_nil)) pa_nil))) pa_nil))) pa_nil)) (pg_name (i := 1) sc_law.nd rfl (Or.inl rfl))
  (pss_cons (ps_set (i := 2) sc_law.nd rfl (Or.inl rfl) (pe_call G_law_pool (hr.mono (by decide)) (by rfl) T.g_law_pool T.law_pool.kp T.b_law_pool .nil pass0 (pa_cons (pv 0) (pa_cons (pv 1) pa_nil))))
  (pss_cons (ps_par (i := 3) (j := 4) rfl sc_law.nd rfl rfl (by decide) rfl rfl (pa_cons (pe_call G_law_thing (hr.mono (by decide)) (by rfl) T.g_law_thing T.law_thing.kp T.b_law_thing .nil pass0 (pa_cons (pv 2) pa_nil)) (pa_cons (pe_call G_law_thing (hr.mono (by decide)) (by rfl) T.g_law_thing T.law_thing.kp T.b_law_thing .nil pass0 (pa_cons (pv 2) pa_nil)) pa_nil)) (by rfl))
  (pss_cons (ps_set (i := 5) sc_law.nd rfl (Or.inr rfl) (pe_op op_cat (pe_call G_law_first (hr.mono (by decide)) (by rfl) T.g_law_first T.law_first.kp T.b_law_first .nil pass0 (pa_cons (pv 3) (pa_cons (pv 4) pa_nil))) (pe_call G_law_second (hr.mono (by decide)) (by rfl) T.g_law_second T.law_second.kp T.b_law_second .nil pass0 (pa_cons (pv 3) (pa_cons (pv 4) pa_nil)))))
  (pss_cons (ps_for PassesOwn.never rfl (pi_range1 (by rfl) T.n_range (pa_cons pe_int pa_nil)) (pg_name (i := 6) sc_law.nd rfl (Or.inr rfl))
  (pss_cons (ps_asg (pe_ix ix_list (pv 5) (pv 6) (fun _ _ => rfl)) (pg_tup rfl (pgs_cons (pg_name (i := 7) sc_law.nd rfl (Or.inl rfl)) (pgs_cons (pg_name (i := 8) sc_law.nd rfl (Or.inl rfl)) pgs_nil))))
  (pss_cons (ps_if (PW.pt (pw_or (pt_not (pt_val (pe_callB call_isV (by rfl) T.n_isinstance (by decide +kernel) (pa_cons (pv 7) (pa_cons (pe_glob (v := .ref a.InnercommitsError) (by rfl) T.g_InnercommitsError rfl) pa_nil))))) (pw_or1 (pt_not (pt_val (pe_callB call_isV (by rfl) T.n_isinstance (by decide +kernel) (pa_cons (pv 7) (pa_cons (pe_bltn (v := .ty "ValueError") (u := .type "ValueError") (by rfl) T.n_ValueError (by decide +kernel) rfl) pa_nil)))))))) (pss_one (ps_ret pe_bl)) pss_nil)
  (pss_one (ps_if (PW.pt (pw_or (pt_cmpR (op_neD hr.units) (pe_call G_law_classes (hr.mono (by decide)) (by rfl) T.g_law_classes T.law_classes.kp T.b_law_classes .nil pass0 (pa_cons (pv 7) pa_nil)) (pe_lc (own := [("_law_j", 10)]) (tt := tYes) rfl sc_law.nd (pi_range1 (by rfl) T.n_range (pa_cons pe_int pa_nil)) (blkOk_by (own := [("_law_j", 10)]) (N := ["_law_script", "_law_at", "_law_pool_here", "_law_one", "_law_two", "_law_pairs", "_law_k", "_law_e", "_law_due", "_law_words", "_law_j"]) (sc := defScope s_law) (by decide +kernel)) (fun _ _ _ _ _ => (pg_name (i := 10) sc_law.nd rfl (Or.inl rfl))) (fun _ _ _ _ _ => pts_nil) (fun _ _ _ _ _ => (pe_cmpR op_eq (pv 10) (pv 6) (nomark _)))) (nomark _)) (pw_or1 (pt_cmpR op_ne (pe_callB (call_reprD hgd hr.units) (by rfl) T.n_repr (by decide +kernel) (pa_cons (pe_call G_law_fields (hr.mono (by decide)) (by rfl) T.g_law_fields T.law_fields.kp T.b_law_fields .nil pass0 (pa_cons (pv 7) (pa_cons (pv 6) pa_nil))) pa_nil)) (pe_callB (call_reprD hgd hr.units) (by rfl) T.n_repr (by decide +kernel) (pa_cons (pv 8) pa_nil)) (nomark _))))) (pss_one (ps_ret pe_bl)) pss_nil)))))
  (pss_cons (ps_setLc (i := 9) (own := [("_law_k", 6)]) (tt := tYes) rfl sc_law.nd rfl rfl (sw_true rfl rfl rfl (by decide +kernel)) (pi_list (pe_lst (pa_cons pe_int (pa_cons pe_int (pa_cons pe_int (pa_cons pe_int (pa_cons pe_int pa_nil))))))) (blkOk_by (own := [("_law_k", 6)]) (N := ["_law_script", "_law_at", "_law_pool_here", "_law_one", "_law_two", "_law_pairs", "_law_k", "_law_e", "_law_due", "_law_words", "_law_j"]) (sc := defScope s_law) (by decide +kernel)) (fun _ _ _ _ _ => (pg_name (i := 6) sc_law.nd rfl (Or.inl rfl))) (fun _ _ _ _ _ => pts_nil) (fun _ _ _ _ _ => (pe_xvK (K := K) rfl (pe_ix (ix_tupK (K := K) rfl) (pe_ix (ix_listK (K := K) rfl) (pv 5) (pv 6) (fun _ _ => rfl)) pe_int (fun _ _ => rfl)))))
  (pss_cons (ps_if (pt_cmpR (op_neD hr.units) (pv 9) (pe_lst (pa_cons pe_str (pa_cons pe_str (pa_cons pe_str (pa_cons pe_str (pa_cons pe_str pa_nil)))))) (nomark _)) (pss_one (ps_ret pe_bl)) pss_nil)
  (pss_one (ps_if (PW.pt (pw_or (pt_cmpR (op_neD hr.units) (pe_xv (pe_errK (ks := ["case", "name"]) (fun {_} => gsw) T.e_NoRow T.g_NoRow T.n_super hr (pk_cons (pv 4) (pk_cons (pv 3) pk_nil)) (hba_NoRow T) gsw_r gsw_l mono_v2)) (pv 3) (nomark _)) (pw_or1 (pt_cmpR (op_neD hr.units) (pe_xv (pe_errK (ks := ["record"]) (fun {_} => gid) T.e_Waits T.g_Waits T.n_super hr (pk_cons (pv 3) pk_nil) (hba_Waits T) gid_r gid_l mono_v1)) (pv 3) (nomark _))))) (pss_one (ps_ret pe_bl)) pss_nil)))))))))
  (pss_one (ps_ret pe_bl))), ?_⟩
    dsimp only [cxOf]
    walk_at "rd"
    refine for_range (fun i σ H1 => i ≤ 63 ∧ Same H H1 ∧ ∃ v1 v2 v3 v4 v5 v6 v7 v8 v9 v10, σ = [some (.ref sa), v1, v2, v3, v4, v5, v6, v7, v8, v9, v10]) ?_ ?_ ?_
    · exact ⟨by omega, Same.refl H, _, _, _, _, _, _, _, _, _, _, rfl⟩
    · rintro i σ H1 hi ⟨h12, s1, v1, v2, v3, v4, v5, v6, v7, v8, v9, v10, rfl⟩
      have hi12 : i < 63 := by revert hi; split <;> split <;> omega
      refine ⟨_, rfl, _, rfl, sa, ns, i, ?_, s1.seq hS, by omega, fun p o hp ho => ?_⟩
      · rw [Int.zero_add]; rfl
      have I0 : P14 H (upd H1 p o) p 0 := ⟨s1.new hp, ⟨o, upd_same, ho⟩, s1.free hp⟩
      have hp0 := upd_same (H := H1) (a := p) (o := o)
      generalize upd H1 p o = H2 at I0 hp0 ⊢
      have c0 : (0 : Nat) < 2 ^ 30 := by decide
      have c1 : 0 + 20 < 2 ^ 30 := by decide
      walk_at "rd"
      intro H3 o3 t1 d1 i3 k3 hp3 h3 th1
      have I3 := I0.draw k3 hp3 h3
      walk_at "rd"
      intro H4 o4 t2 d2 i4 k4 hp4 h4 th2
      have I4 := I3.draw k4 hp4 h4
      have th1 := th1.ike i4
      clear I0 I3 hp0 i3 k3 hp3 h3 i4 k4
      walk_at "rd"
      intro H5 q5 ts5 s5 l5 n5 P5
      walk_at "rd"
      intro H6 q6 ts6 s6 l6 n6 P6
      have l5 := s6 _ _ l5
      have P5 := P5.same s6
      have lc : (ts5.map V.ref).length + (ts6.map V.ref).length ≤ sizeLine := by rw [List.length_map, List.length_map, n5, n6, sizeLine_eq]; omega
      walk_at "rd"
      intro q7 hq7
      obtain ⟨ts, ets⟩ : ∃ ts, ts = ts5 ++ ts6 := ⟨_, rfl⟩
      have Pt : Ps a H6 t1 t2 0 ts := ets ▸ P5.app P6 n5.symm
      have nts : ts.length = 25 := by rw [ets, List.length_append, n5, n6]
      rw [show ts5.map V.ref ++ ts6.map V.ref = ts.map V.ref by rw [ets, List.map_append]]
      have s7 := (Same.refl H6).new (o := .lst (ts.map V.ref)) hq7
      have l7 := upd_same (H := H6) (a := q7) (o := .lst (ts.map V.ref))
      have Pt := Pt.same s7
      have s7 := s5.trans (s6.trans s7)
      generalize upd H6 q7 (.lst (ts.map V.ref)) = H7 at s7 l7 Pt ⊢
      have I7 := I4.keep s7
      have th1 := th1.ike (.same s7)
      have th2 := th2.ike (.same s7)
      clear P5 P6 l5 l6 lc s5 s6 s7 I4 hp4 h4 hq7 ets n5 n6
      walk_at "rd"
      refine for_range (fun j σ H' => j ≤ 25 ∧ Same H7 H' ∧ ∃ v6 v7 v8 v9 v10, σ = [some (.ref sa), some (.int (0 + (i : Int))), some (.ref p), some t1, some t2, some (.ref q7), v6, v7, v8, v9, v10]) ?_ ?_ ?_
      · exact ⟨by omega, Same.refl H7, _, _, _, _, _, rfl⟩
      · rintro j σ H8 hj ⟨_, s8, v6, v7, v8, v9, v10, rfl⟩
        have hj25 : j < 25 := hj
        obtain ⟨t, ht⟩ : ∃ t, ts[j]? = some t := ⟨_, List.getElem?_eq_getElem (by omega)⟩
        have pt := (Pt j t ht).same s8
        rw [Nat.zero_add] at pt
        obtain ⟨e, due, het, ⟨C, hC, x⟩, hdue⟩ := pt
        have ek := exk_all T hC
        obtain ⟨kB, kV⟩ := base_at T hC
        have rV : ∀ u, RelV (V.ty "ValueError") u → u = Value.type "ValueError" := fun u h => h
        have l8 : SqL K H8 q7 (ts.map V.ref) := SqL.of (s8 _ _ l7)
        have at8 := atRef ht
        have th1 := th1.ike (.same s8)
        have th2 := th2.ike (.same s8)
        rw [Int.zero_add]
        walk_at "rd"
        intro H9 q9 s9 hq9
        walk_at "rd"
        intro q10 hq10
        refine lc_range (fun l H' => l ≤ 25 ∧ Same H9 H' ∧ H' q10 = some (.lst ((List.range l).map fun m => V.bl (decide (j = m))))) ?_ ?_ ?_
        · exact ⟨by omega, (Same.refl H9).new hq10, upd_same⟩
        · rintro l H10 hl' ⟨l25, s10, e10⟩
          refine ⟨rfl, ?_⟩
          walk_at "rd"
          have ee : V.bl (decide (V.int (0 + (l : Int)) = V.int (j : Int))) = V.bl (decide (j = l)) := by
            congr 1
            rw [decide_eq_decide]
            constructor
            · intro z
              have := V.int.inj z
              omega
            · intro z
              rw [z, Int.zero_add]
          refine ⟨by rw [List.length_map, List.length_range, sizeLine_eq]; omega, hl', s10.frsh hq10, ?_⟩
          rw [upd_same, List.range_succ, List.map_append]
          exact congrArg (fun z => some (HO.lst ((List.range l).map (fun m => V.bl (decide (j = m))) ++ [z]))) ee
        · rintro H10 ⟨_, s10, e10⟩
          have hq9 := s10 _ _ hq9
          have e10 : H10 q10 = some (.lst ((List.range 25).map fun m => V.bl (decide (j = m)))) := e10
          have hE : ErrI a H10 j t1 t2 e := ErrI.same ⟨C, hC, x⟩ (s9.trans s10)
          have hdue := hdue.same (s9.trans s10)
          have th1 := th1.ike (.same (s9.trans s10))
          have th2 := th2.ike (.same (s9.trans s10))
          have s10 := s8.trans (s9.trans s10)
          refine ⟨_, _, .lst (SqL.of hq9) (dp_bls _ _), .lst (SqL.of e10) (dp_bls _ _), shaped_bls _ _, shaped_bls _ _, _, rfl, ?_⟩
          rw [SeqAt.eqv_refl _ (SeqAt.canLay_of_shaped (shaped_bls (fun m => decide (j = m)) (List.range 25)))]
          walk_at "rd"
          intro H11 r s11 D11
          have hdue := hdue.same s11
          have th1 := th1.ike (.same s11)
          have th2 := th2.ike (.same s11)
          have s11 := s10.trans s11
          have dk := due_ok (i := j) th1 th2
          have dr := due_dq (K := K) th1 th2 D11
          have dd := due_dq (K := K) th1 th2 hdue
          refine ⟨_, _, rfl, dr, dk.1, dk.2.1, dk.2.2, ?_⟩
          walk_at "rd"
          refine ⟨_, rfl, dd, dk.1, dk.2.1, dk.2.2, rfl, ?_⟩
          walk_at "rd"
          rw [nene]
          walk_at "rd"
          exact ⟨_, _, _, _, _, rfl⟩
      · rintro σ H8 ⟨_, s8, v6, v7, v8, v9, v10, rfl⟩
        have l8 := s8 _ _ l7
        have Pt := Pt.same s8
        have th1 := th1.ike (.same s8)
        have th2 := th2.ike (.same s8)
        walk_at "rd"
        intro qi hqi
        walk_at "rd"
        have sI := (Same.refl H8).new (o := .lst [V.int 7, V.int 10, V.int 19, V.int 20, V.int 24]) hqi
        have lI := upd_same (H := H8) (a := qi) (o := .lst [V.int 7, V.int 10, V.int 19, V.int 20, V.int 24])
        generalize upd H8 qi (.lst [V.int 7, V.int 10, V.int 19, V.int 20, V.int 24]) = H9 at sI lI ⊢
        have l9 := sI _ _ l8
        have Pt := Pt.same sI
        have th1 := th1.ike (.same sI)
        have th2 := th2.ike (.same sI)
        have s9 := s8.trans sI
        clear l8 sI
        refine ⟨⟨_, SqL.of lI⟩, ?_⟩
        intro qw hqw
        try dsimp only
        refine lc_list (xs := wIx.map fun n => V.int ((n : Nat) : Int)) (fun l H' => Same H9 H' ∧ H' qw = some (.lst ((wTx.take l).map V.str))) ?_ ?_ ?_ ?_
        · exact ⟨(Same.refl H9).new hqw, upd_same⟩
        · rintro l H' _ ⟨s10, _⟩
          exact SqL.of (s10 _ _ lI)
        · rintro l v H10 hv ⟨s10, e10⟩
          obtain ⟨n, hn, rfl⟩ : ∃ n, wIx[l]? = some n ∧ v = V.int ((n : Nat) : Int) := by
            rw [List.getElem?_map] at hv
            cases e : wIx[l]? with
            | none => rw [e] at hv; cases hv
            | some n => rw [e] at hv; cases hv; exact ⟨n, rfl, rfl⟩
          have l5 : l < 5 := (List.getElem?_eq_some_iff.mp hn).1
          obtain ⟨z, hz⟩ : ∃ z, wTx[l]? = some z := ⟨_, List.getElem?_eq_getElem l5⟩
          have n25 : n < 25 := by
            have := List.mem_of_getElem? hn
            simp only [wIx, List.mem_cons, List.not_mem_nil, or_false] at this
            omega
          obtain ⟨t, ht⟩ : ∃ t, ts[n]? = some t := ⟨_, List.getElem?_eq_getElem (by omega)⟩
          have pt := (Pt n t ht).same s10
          rw [Nat.zero_add] at pt
          obtain ⟨e, due, het, hE, _⟩ := pt
          obtain ⟨C, fs, x, xf, fw, lw⟩ := word_at T hn hz hE
          have at10 := atRef ht
          have l10 := SqL.of (K := K) (s10 _ _ l9)
          have t10 := SqT.of (K := K) het
          have a10 : atI [V.ref e, due] 0 = some (V.ref e) := rfl
          refine ⟨rfl, ?_⟩
          walk_at "rd"
          refine ⟨by rw [List.length_map, List.length_take, sizeLine_eq]; have : wTx.length = 5 := rfl; omega, s10.frsh hqw, ?_⟩
          rw [upd_same, List.take_add_one, hz, List.map_append]
          rfl
        · rintro H10 ⟨s10, e10⟩
          have e10 : H10 qw = some (.lst (wTx.map V.str)) := e10
          have th1 := th1.ike (.same s10)
          have s10 := s9.trans s10
          walk_at "rd"
          intro qz hqz
          have shw : SeqAt.shaped (.list (wTx.map PyData.str)) = true := by decide +kernel
          have lz : upd H10 qz (.lst [V.str "doomed", V.str "missing", V.str "present", V.str "refused", V.str "waits"]) qz = some (.lst (wTx.map V.str)) := upd_same
          have sz := (Same.refl H10).new (o := .lst [V.str "doomed", V.str "missing", V.str "present", V.str "refused", V.str "waits"]) hqz
          have e11 := sz _ _ e10
          have th1 := th1.ike (.same sz)
          have s11 := s10.trans sz
          refine ⟨_, _, .lst (SqL.of e11) (dp_strs _), .lst (SqL.of lz) (dp_strs _), shw, shw, _, rfl, ?_⟩
          rw [SeqAt.eqv_refl _ (SeqAt.canLay_of_shaped shw)]
          generalize upd H10 qz (HO.lst [V.str "doomed", V.str "missing", V.str "present", V.str "refused", V.str "waits"]) = H11 at th1 s11 ⊢
          walk_at "rd"
          intro e12 H12 s12 n12 x12
          have th1 := th1.ike (.same s12)
          have s12 := s11.trans s12
          have f12 : PySem.W.findIn K (.ref a.NoRow) "name" = some none := T.e_NoRow.noF ("name", .inl 0) (by simp [ef_NoRow])
          refine ⟨_, _, _, t1, rfl, x12, xfc T.e_NoRow, f12, rfl, ?_⟩
          walk_at "rd"
          refine ⟨_, _, th1.dp, th1.dp, th1.shaped, th1.shaped, _, rfl, ?_⟩
          rw [SeqAt.eqv_refl _ (SeqAt.canLay_of_shaped th1.shaped)]
          walk_at "rd"
          intro e13 H13 s13 n13 x13
          have th1 := th1.ike (.same s13)
          have s13 := s12.trans s13
          have f13 : PySem.W.findIn K (.ref a.Waits) "record" = some none := T.e_Waits.noF ("record", .inl 0) (by simp [ef_Waits])
          refine ⟨_, _, _, t1, rfl, x13, xfc T.e_Waits, f13, rfl, ?_⟩
          walk_at "rd"
          refine ⟨_, _, th1.dp, th1.dp, th1.shaped, th1.shaped, _, rfl, ?_⟩
          rw [SeqAt.eqv_refl _ (SeqAt.canLay_of_shaped th1.shaped)]
          walk_at "rd"
          exact ⟨I7.same.trans s13, _, _, _, _, _, _, _, _, _, _, rfl⟩
    · rintro σ H1 ⟨_, s1, v1, v2, v3, v4, v5, v6, v7, v8, v9, v10, rfl⟩
      exact k H1
end
theorem all_mk {w : World} {K : PySem.W.Frag} {h : Heap} {mg : Str → Option Value} {fa : Addr} (X : K.In h) (G : h.Ns mainGlobals mg) (hfa : mg "law" = some (.ref fa))
    {C2 : Addr}
    {C4 : Addr}
    {f6 : Addr} {nm7 qn7 : Str} {N7 : Addr} {bs7 bm7 : List Value} {sn7 : List Str} {sub7 : List Value} {ab7 : Bool} {col7 : Option Bool} {dd7 : Option Addr} {k07 k17 k27 k37 k57 : Option Value}
    {oc7 : Value} {od7 : Option Addr} {doc7 pm7 : Value} {an7 : Option Addr} {cda7 cc7 : Addr} {ct7 : Value} {osl7 : Array (Option Value)} {ccl7 : Value} {cdd7 : Option Addr} {vs7 : Array Value} {ccs7 : Array (Option Value)} {tf7 : Tok} {cl7 : Value} {cld7 : Option Addr} {csl7 : Array (Option Value)}
    {C29 : Addr}
    {f31 : Addr} {nm32 qn32 : Str} {N32 : Addr} {bs32 bm32 : List Value} {sn32 : List Str} {sub32 : List Value} {ab32 : Bool} {col32 : Option Bool} {dd32 : Option Addr} {k032 k132 k232 k332 k532 : Option Value}
    {oc32 : Value} {od32 : Option Addr} {doc32 pm32 : Value} {an32 : Option Addr} {cda32 cc32 : Addr} {ct32 : Value} {osl32 : Array (Option Value)} {ccl32 : Value} {cdd32 : Option Addr} {vs32 : Array Value} {ccs32 : Array (Option Value)} {tf32 : Tok} {cl32 : Value} {cld32 : Option Addr} {csl32 : Array (Option Value)}
    {C54 : Addr}
    {f56 : Addr} {nm57 qn57 : Str} {N57 : Addr} {bs57 bm57 : List Value} {sn57 : List Str} {sub57 : List Value} {ab57 : Bool} {col57 : Option Bool} {dd57 : Option Addr} {k057 k157 k257 k357 k557 : Option Value}
    {oc57 : Value} {od57 : Option Addr} {doc57 pm57 : Value} {an57 : Option Addr} {cda57 cc57 : Addr} {ct57 : Value} {osl57 : Array (Option Value)} {ccl57 : Value} {cdd57 : Option Addr} {vs57 : Array Value} {ccs57 : Array (Option Value)} {tf57 : Tok} {cl57 : Value} {cld57 : Option Addr} {csl57 : Array (Option Value)}
    {C79 : Addr}
    {f81 : Addr} {nm82 qn82 : Str} {N82 : Addr} {bs82 bm82 : List Value} {sn82 : List Str} {sub82 : List Value} {ab82 : Bool} {col82 : Option Bool} {dd82 : Option Addr} {k082 k182 k282 k382 k582 : Option Value}
    {oc82 : Value} {od82 : Option Addr} {doc82 pm82 : Value} {an82 : Option Addr} {cda82 cc82 : Addr} {ct82 : Value} {osl82 : Array (Option Value)} {ccl82 : Value} {cdd82 : Option Addr} {vs82 : Array Value} {ccs82 : Array (Option Value)} {tf82 : Tok} {cl82 : Value} {cld82 : Option Addr} {csl82 : Array (Option Value)}
    {C104 : Addr}
    {f106 : Addr} {nm107 qn107 : Str} {N107 : Addr} {bs107 bm107 : List Value} {sn107 : List Str} {sub107 : List Value} {ab107 : Bool} {col107 : Option Bool} {dd107 : Option Addr} {k0107 k1107 k2107 k3107 k5107 : Option Value}
    {oc107 : Value} {od107 : Option Addr} {doc107 pm107 : Value} {an107 : Option Addr} {cda107 cc107 : Addr} {ct107 : Value} {osl107 : Array (Option Value)} {ccl107 : Value} {cdd107 : Option Addr} {vs107 : Array Value} {ccs107 : Array (Option Value)} {tf107 : Tok} {cl107 : Value} {cld107 : Option Addr} {csl107 : Array (Option Value)}
    {C129 : Addr}
    {f131 : Addr} {nm132 qn132 : Str} {N132 : Addr} {bs132 bm132 : List Value} {sn132 : List Str} {sub132 : List Value} {ab132 : Bool} {col132 : Option Bool} {dd132 : Option Addr} {k0132 k1132 k2132 k3132 k5132 : Option Value}
    {oc132 : Value} {od132 : Option Addr} {doc132 pm132 : Value} {an132 : Option Addr} {cda132 cc132 : Addr} {ct132 : Value} {osl132 : Array (Option Value)} {ccl132 : Value} {cdd132 : Option Addr} {vs132 : Array Value} {ccs132 : Array (Option Value)} {tf132 : Tok} {cl132 : Value} {cld132 : Option Addr} {csl132 : Array (Option Value)}
    {C154 : Addr}
    {f156 : Addr} {nm157 qn157 : Str} {N157 : Addr} {bs157 bm157 : List Value} {sn157 : List Str} {sub157 : List Value} {ab157 : Bool} {col157 : Option Bool} {dd157 : Option Addr} {k0157 k1157 k2157 k3157 k5157 : Option Value}
    {oc157 : Value} {od157 : Option Addr} {doc157 pm157 : Value} {an157 : Option Addr} {cda157 cc157 : Addr} {ct157 : Value} {osl157 : Array (Option Value)} {ccl157 : Value} {cdd157 : Option Addr} {vs157 : Array Value} {ccs157 : Array (Option Value)} {tf157 : Tok} {cl157 : Value} {cld157 : Option Addr} {csl157 : Array (Option Value)}
    {C179 : Addr}
    {f181 : Addr} {nm182 qn182 : Str} {N182 : Addr} {bs182 bm182 : List Value} {sn182 : List Str} {sub182 : List Value} {ab182 : Bool} {col182 : Option Bool} {dd182 : Option Addr} {k0182 k1182 k2182 k3182 k5182 : Option Value}
    {oc182 : Value} {od182 : Option Addr} {doc182 pm182 : Value} {an182 : Option Addr} {cda182 cc182 : Addr} {ct182 : Value} {osl182 : Array (Option Value)} {ccl182 : Value} {cdd182 : Option Addr} {vs182 : Array Value} {ccs182 : Array (Option Value)} {tf182 : Tok} {cl182 : Value} {cld182 : Option Addr} {csl182 : Array (Option Value)}
    {C205 : Addr}
    {f207 : Addr} {nm208 qn208 : Str} {N208 : Addr} {bs208 bm208 : List Value} {sn208 : List Str} {sub208 : List Value} {ab208 : Bool} {col208 : Option Bool} {dd208 : Option Addr} {k0208 k1208 k2208 k3208 k5208 : Option Value}
    {oc208 : Value} {od208 : Option Addr} {doc208 pm208 : Value} {an208 : Option Addr} {cda208 cc208 : Addr} {ct208 : Value} {osl208 : Array (Option Value)} {ccl208 : Value} {cdd208 : Option Addr} {vs208 : Array Value} {ccs208 : Array (Option Value)} {tf208 : Tok} {cl208 : Value} {cld208 : Option Addr} {csl208 : Array (Option Value)}
    {C230 : Addr}
    {f232 : Addr} {nm233 qn233 : Str} {N233 : Addr} {bs233 bm233 : List Value} {sn233 : List Str} {sub233 : List Value} {ab233 : Bool} {col233 : Option Bool} {dd233 : Option Addr} {k0233 k1233 k2233 k3233 k5233 : Option Value}
    {oc233 : Value} {od233 : Option Addr} {doc233 pm233 : Value} {an233 : Option Addr} {cda233 cc233 : Addr} {ct233 : Value} {osl233 : Array (Option Value)} {ccl233 : Value} {cdd233 : Option Addr} {vs233 : Array Value} {ccs233 : Array (Option Value)} {tf233 : Tok} {cl233 : Value} {cld233 : Option Addr} {csl233 : Array (Option Value)}
    {C255 : Addr}
    {f257 : Addr} {nm258 qn258 : Str} {N258 : Addr} {bs258 bm258 : List Value} {sn258 : List Str} {sub258 : List Value} {ab258 : Bool} {col258 : Option Bool} {dd258 : Option Addr} {k0258 k1258 k2258 k3258 k5258 : Option Value}
    {oc258 : Value} {od258 : Option Addr} {doc258 pm258 : Value} {an258 : Option Addr} {cda258 cc258 : Addr} {ct258 : Value} {osl258 : Array (Option Value)} {ccl258 : Value} {cdd258 : Option Addr} {vs258 : Array Value} {ccs258 : Array (Option Value)} {tf258 : Tok} {cl258 : Value} {cld258 : Option Addr} {csl258 : Array (Option Value)}
    {C281 : Addr}
    {f283 : Addr} {nm284 qn284 : Str} {N284 : Addr} {bs284 bm284 : List Value} {sn284 : List Str} {sub284 : List Value} {ab284 : Bool} {col284 : Option Bool} {dd284 : Option Addr} {k0284 k1284 k2284 k3284 k5284 : Option Value}
    {oc284 : Value} {od284 : Option Addr} {doc284 pm284 : Value} {an284 : Option Addr} {cda284 cc284 : Addr} {ct284 : Value} {osl284 : Array (Option Value)} {ccl284 : Value} {cdd284 : Option Addr} {vs284 : Array Value} {ccs284 : Array (Option Value)} {tf284 : Tok} {cl284 : Value} {cld284 : Option Addr} {csl284 : Array (Option Value)}
    {C305 : Addr}
    {f307 : Addr} {nm308 qn308 : Str} {N308 : Addr} {bs308 bm308 : List Value} {sn308 : List Str} {sub308 : List Value} {ab308 : Bool} {col308 : Option Bool} {dd308 : Option Addr} {k0308 k1308 k2308 k3308 k5308 : Option Value}
    {oc308 : Value} {od308 : Option Addr} {doc308 pm308 : Value} {an308 : Option Addr} {cda308 cc308 : Addr} {ct308 : Value} {osl308 : Array (Option Value)} {ccl308 : Value} {cdd308 : Option Addr} {vs308 : Array Value} {ccs308 : Array (Option Value)} {tf308 : Tok} {cl308 : Value} {cld308 : Option Addr} {csl308 : Array (Option Value)}
    {C330 : Addr}
    {f332 : Addr} {nm333 qn333 : Str} {N333 : Addr} {bs333 bm333 : List Value} {sn333 : List Str} {sub333 : List Value} {ab333 : Bool} {col333 : Option Bool} {dd333 : Option Addr} {k0333 k1333 k2333 k3333 k5333 : Option Value}
    {oc333 : Value} {od333 : Option Addr} {doc333 pm333 : Value} {an333 : Option Addr} {cda333 cc333 : Addr} {ct333 : Value} {osl333 : Array (Option Value)} {ccl333 : Value} {cdd333 : Option Addr} {vs333 : Array Value} {ccs333 : Array (Option Value)} {tf333 : Tok} {cl333 : Value} {cld333 : Option Addr} {csl333 : Array (Option Value)}
    {C355 : Addr}
    {f357 : Addr} {nm358 qn358 : Str} {N358 : Addr} {bs358 bm358 : List Value} {sn358 : List Str} {sub358 : List Value} {ab358 : Bool} {col358 : Option Bool} {dd358 : Option Addr} {k0358 k1358 k2358 k3358 k5358 : Option Value}
    {oc358 : Value} {od358 : Option Addr} {doc358 pm358 : Value} {an358 : Option Addr} {cda358 cc358 : Addr} {ct358 : Value} {osl358 : Array (Option Value)} {ccl358 : Value} {cdd358 : Option Addr} {vs358 : Array Value} {ccs358 : Array (Option Value)} {tf358 : Tok} {cl358 : Value} {cld358 : Option Addr} {csl358 : Array (Option Value)}
    {C380 : Addr}
    {f382 : Addr} {nm383 qn383 : Str} {N383 : Addr} {bs383 bm383 : List Value} {sn383 : List Str} {sub383 : List Value} {ab383 : Bool} {col383 : Option Bool} {dd383 : Option Addr} {k0383 k1383 k2383 k3383 k5383 : Option Value}
    {oc383 : Value} {od383 : Option Addr} {doc383 pm383 : Value} {an383 : Option Addr} {cda383 cc383 : Addr} {ct383 : Value} {osl383 : Array (Option Value)} {ccl383 : Value} {cdd383 : Option Addr} {vs383 : Array Value} {ccs383 : Array (Option Value)} {tf383 : Tok} {cl383 : Value} {cld383 : Option Addr} {csl383 : Array (Option Value)}
    {C405 : Addr}
    {f407 : Addr} {nm408 qn408 : Str} {N408 : Addr} {bs408 bm408 : List Value} {sn408 : List Str} {sub408 : List Value} {ab408 : Bool} {col408 : Option Bool} {dd408 : Option Addr} {k0408 k1408 k2408 k3408 k5408 : Option Value}
    {oc408 : Value} {od408 : Option Addr} {doc408 pm408 : Value} {an408 : Option Addr} {cda408 cc408 : Addr} {ct408 : Value} {osl408 : Array (Option Value)} {ccl408 : Value} {cdd408 : Option Addr} {vs408 : Array Value} {ccs408 : Array (Option Value)} {tf408 : Tok} {cl408 : Value} {cld408 : Option Addr} {csl408 : Array (Option Value)}
    {C430 : Addr}
    {f432 : Addr} {nm433 qn433 : Str} {N433 : Addr} {bs433 bm433 : List Value} {sn433 : List Str} {sub433 : List Value} {ab433 : Bool} {col433 : Option Bool} {dd433 : Option Addr} {k0433 k1433 k2433 k3433 k5433 : Option Value}
    {oc433 : Value} {od433 : Option Addr} {doc433 pm433 : Value} {an433 : Option Addr} {cda433 cc433 : Addr} {ct433 : Value} {osl433 : Array (Option Value)} {ccl433 : Value} {cdd433 : Option Addr} {vs433 : Array Value} {ccs433 : Array (Option Value)} {tf433 : Tok} {cl433 : Value} {cld433 : Option Addr} {csl433 : Array (Option Value)}
    {C456 : Addr}
    {f458 : Addr} {nm459 qn459 : Str} {N459 : Addr} {bs459 bm459 : List Value} {sn459 : List Str} {sub459 : List Value} {ab459 : Bool} {col459 : Option Bool} {dd459 : Option Addr} {k0459 k1459 k2459 k3459 k5459 : Option Value}
    {oc459 : Value} {od459 : Option Addr} {doc459 pm459 : Value} {an459 : Option Addr} {cda459 cc459 : Addr} {ct459 : Value} {osl459 : Array (Option Value)} {ccl459 : Value} {cdd459 : Option Addr} {vs459 : Array Value} {ccs459 : Array (Option Value)} {tf459 : Tok} {cl459 : Value} {cld459 : Option Addr} {csl459 : Array (Option Value)}
    {C481 : Addr}
    {f483 : Addr} {nm484 qn484 : Str} {N484 : Addr} {bs484 bm484 : List Value} {sn484 : List Str} {sub484 : List Value} {ab484 : Bool} {col484 : Option Bool} {dd484 : Option Addr} {k0484 k1484 k2484 k3484 k5484 : Option Value}
    {oc484 : Value} {od484 : Option Addr} {doc484 pm484 : Value} {an484 : Option Addr} {cda484 cc484 : Addr} {ct484 : Value} {osl484 : Array (Option Value)} {ccl484 : Value} {cdd484 : Option Addr} {vs484 : Array Value} {ccs484 : Array (Option Value)} {tf484 : Tok} {cl484 : Value} {cld484 : Option Addr} {csl484 : Array (Option Value)}
    {C507 : Addr}
    {f509 : Addr} {nm510 qn510 : Str} {N510 : Addr} {bs510 bm510 : List Value} {sn510 : List Str} {sub510 : List Value} {ab510 : Bool} {col510 : Option Bool} {dd510 : Option Addr} {k0510 k1510 k2510 k3510 k5510 : Option Value}
    {oc510 : Value} {od510 : Option Addr} {doc510 pm510 : Value} {an510 : Option Addr} {cda510 cc510 : Addr} {ct510 : Value} {osl510 : Array (Option Value)} {ccl510 : Value} {cdd510 : Option Addr} {vs510 : Array Value} {ccs510 : Array (Option Value)} {tf510 : Tok} {cl510 : Value} {cld510 : Option Addr} {csl510 : Array (Option Value)}
    {C532 : Addr}
    {f534 : Addr} {nm535 qn535 : Str} {N535 : Addr} {bs535 bm535 : List Value} {sn535 : List Str} {sub535 : List Value} {ab535 : Bool} {col535 : Option Bool} {dd535 : Option Addr} {k0535 k1535 k2535 k3535 k5535 : Option Value}
    {oc535 : Value} {od535 : Option Addr} {doc535 pm535 : Value} {an535 : Option Addr} {cda535 cc535 : Addr} {ct535 : Value} {osl535 : Array (Option Value)} {ccl535 : Value} {cdd535 : Option Addr} {vs535 : Array Value} {ccs535 : Array (Option Value)} {tf535 : Tok} {cl535 : Value} {cld535 : Option Addr} {csl535 : Array (Option Value)}
    {C557 : Addr}
    {f559 : Addr} {nm560 qn560 : Str} {N560 : Addr} {bs560 bm560 : List Value} {sn560 : List Str} {sub560 : List Value} {ab560 : Bool} {col560 : Option Bool} {dd560 : Option Addr} {k0560 k1560 k2560 k3560 k5560 : Option Value}
    {oc560 : Value} {od560 : Option Addr} {doc560 pm560 : Value} {an560 : Option Addr} {cda560 cc560 : Addr} {ct560 : Value} {osl560 : Array (Option Value)} {ccl560 : Value} {cdd560 : Option Addr} {vs560 : Array Value} {ccs560 : Array (Option Value)} {tf560 : Tok} {cl560 : Value} {cld560 : Option Addr} {csl560 : Array (Option Value)}
    {C582 : Addr}
    {f584 : Addr} {nm585 qn585 : Str} {N585 : Addr} {bs585 bm585 : List Value} {sn585 : List Str} {sub585 : List Value} {ab585 : Bool} {col585 : Option Bool} {dd585 : Option Addr} {k0585 k1585 k2585 k3585 k5585 : Option Value}
    {oc585 : Value} {od585 : Option Addr} {doc585 pm585 : Value} {an585 : Option Addr} {cda585 cc585 : Addr} {ct585 : Value} {osl585 : Array (Option Value)} {ccl585 : Value} {cdd585 : Option Addr} {vs585 : Array Value} {ccs585 : Array (Option Value)} {tf585 : Tok} {cl585 : Value} {cld585 : Option Addr} {csl585 : Array (Option Value)}
    {C607 : Addr}
    {f609 : Addr} {nm610 qn610 : Str} {N610 : Addr} {bs610 bm610 : List Value} {sn610 : List Str} {sub610 : List Value} {ab610 : Bool} {col610 : Option Bool} {dd610 : Option Addr} {k0610 k1610 k2610 k3610 k5610 : Option Value}
    {oc610 : Value} {od610 : Option Addr} {doc610 pm610 : Value} {an610 : Option Addr} {cda610 cc610 : Addr} {ct610 : Value} {osl610 : Array (Option Value)} {ccl610 : Value} {cdd610 : Option Addr} {vs610 : Array Value} {ccs610 : Array (Option Value)} {tf610 : Tok} {cl610 : Value} {cld610 : Option Addr} {csl610 : Array (Option Value)}
    {f638 : Addr}
    {od640 an640 : Option Addr} {sl640 : Array (Option Value)} {oc640 kV640 dc640 pm640 cd640 ct640 : Value}
    {f641 : Addr}
    {od643 an643 : Option Addr} {sl643 : Array (Option Value)} {oc643 kV643 dc643 pm643 cd643 ct643 : Value}
    {f644 : Addr}
    {od646 an646 : Option Addr} {sl646 : Array (Option Value)} {oc646 kV646 dc646 pm646 cd646 ct646 : Value}
    {f647 : Addr}
    {od649 an649 : Option Addr} {sl649 : Array (Option Value)} {oc649 kV649 dc649 pm649 cd649 ct649 : Value}
    {f650 : Addr}
    {od652 an652 : Option Addr} {sl652 : Array (Option Value)} {oc652 kV652 dc652 pm652 cd652 ct652 : Value}
    {f653 : Addr}
    {od655 an655 : Option Addr} {sl655 : Array (Option Value)} {oc655 kV655 dc655 pm655 cd655 ct655 : Value}
    {f656 : Addr}
    {od658 an658 : Option Addr} {sl658 : Array (Option Value)} {oc658 kV658 dc658 pm658 cd658 ct658 : Value}
    {f659 : Addr}
    {od661 an661 : Option Addr} {sl661 : Array (Option Value)} {oc661 kV661 dc661 pm661 cd661 ct661 : Value}
    {od662 an662 : Option Addr} {sl662 : Array (Option Value)} {oc662 kV662 dc662 pm662 cd662 ct662 : Value}
    (z1 : PySem.W.nsIn K cStatics "thirdparty.any" = some none)
    (a3 : PySem.W.nsIn K mainGlobals "InnercommitsError" = some (some (.ref C2)))
    (a5 : PySem.W.nsIn K mainGlobals "BadChange" = some (some (.ref C4)))
    (e8 : K.lookup C4 = some (excClassObj nm7 qn7 C4 N7 bs7 bm7 true sn7 sub7 ab7 col7 dd7 k07 k17 k27 k37 k57 "ValueError.__new__"))
    (e9 : PySem.HandSPX.refsVE bm7 = true)
    (e10 : PySem.W.findIn K (.ref C4) "__setattr__" = some (some (.builtin "object.__setattr__")))
    (e11 : PySem.W.findIn K (.ref C4) "__getattribute__" = some (some (.builtin "BaseException.__getattribute__")))
    (e12 : PySem.W.findIn K (.ref C4) "__getattr__" = some none)
    (e13 : PySem.W.findIn K (.ref C4) "__init__" = some (some (.ref f6)))
    (e14 : PySem.W.typeIn K (.ref f6) = some (.type "function"))
    (e15 : PySem.W.keepIn K (.ref C4) = true)
    (e16 : PySem.W.subIn K (.ref C4) (.type "BaseException") = some true)
    (e17 : PySem.W.subIn K (.ref C4) (.type "ValueError") = some true)
    (e18 : PySem.W.typeIn K (.ref C4) = some (.type "type"))
    (e19 : PySem.W.hasDictIn K C4 = true)
    (e20 : PySem.W.ks_superIn K C4 C4 "__init__" = some (some (.builtin "ValueError.__init__")))
    (e21 : PySem.W.mroIn K C4 (.ref C4) = some true)
    (e22 : PySem.W.exmOne K (.ref C4) (.ref C4) = some true)
    (e23 : K.lookup f6 = some ⟨oc7, od7, .func (PySem.W.ksFn "__init__" "BadChange.__init__" (defArgs s_BadChangeU_initU) (defBody s_BadChangeU_initU) (defScope s_BadChangeU_initU) .none .none doc7 pm7 an7 (.ref cda7) ct7 cc7), osl7⟩)
    (e24 : PySem.W.codeIn K (.ref cda7) "BadChange.__init__" = true)
    (e25 : K.lookup cda7 = some ⟨ccl7, cdd7, .fields vs7, ccs7⟩)
    (e26 : vs7[2]? = some (.str P.main.file tf7))
    (e27 : K.lookup cc7 = some ⟨cl7, cld7, .cell (some (.ref C4)), csl7⟩)
    (e28 : PySem.W.findIn K (.ref C4) "index" = some none)
    (a30 : PySem.W.nsIn K mainGlobals "BadLibrary" = some (some (.ref C29)))
    (e33 : K.lookup C29 = some (excClassObj nm32 qn32 C29 N32 bs32 bm32 true sn32 sub32 ab32 col32 dd32 k032 k132 k232 k332 k532 "ValueError.__new__"))
    (e34 : PySem.HandSPX.refsVE bm32 = true)
    (e35 : PySem.W.findIn K (.ref C29) "__setattr__" = some (some (.builtin "object.__setattr__")))
    (e36 : PySem.W.findIn K (.ref C29) "__getattribute__" = some (some (.builtin "BaseException.__getattribute__")))
    (e37 : PySem.W.findIn K (.ref C29) "__getattr__" = some none)
    (e38 : PySem.W.findIn K (.ref C29) "__init__" = some (some (.ref f31)))
    (e39 : PySem.W.typeIn K (.ref f31) = some (.type "function"))
    (e40 : PySem.W.keepIn K (.ref C29) = true)
    (e41 : PySem.W.subIn K (.ref C29) (.type "BaseException") = some true)
    (e42 : PySem.W.subIn K (.ref C29) (.type "ValueError") = some true)
    (e43 : PySem.W.typeIn K (.ref C29) = some (.type "type"))
    (e44 : PySem.W.hasDictIn K C29 = true)
    (e45 : PySem.W.ks_superIn K C29 C29 "__init__" = some (some (.builtin "ValueError.__init__")))
    (e46 : PySem.W.mroIn K C29 (.ref C29) = some true)
    (e47 : PySem.W.exmOne K (.ref C29) (.ref C29) = some true)
    (e48 : K.lookup f31 = some ⟨oc32, od32, .func (PySem.W.ksFn "__init__" "BadLibrary.__init__" (defArgs s_BadLibraryU_initU) (defBody s_BadLibraryU_initU) (defScope s_BadLibraryU_initU) .none .none doc32 pm32 an32 (.ref cda32) ct32 cc32), osl32⟩)
    (e49 : PySem.W.codeIn K (.ref cda32) "BadLibrary.__init__" = true)
    (e50 : K.lookup cda32 = some ⟨ccl32, cdd32, .fields vs32, ccs32⟩)
    (e51 : vs32[2]? = some (.str P.main.file tf32))
    (e52 : K.lookup cc32 = some ⟨cl32, cld32, .cell (some (.ref C29)), csl32⟩)
    (e53 : PySem.W.findIn K (.ref C29) "line" = some none)
    (a55 : PySem.W.nsIn K mainGlobals "BadMode" = some (some (.ref C54)))
    (e58 : K.lookup C54 = some (excClassObj nm57 qn57 C54 N57 bs57 bm57 true sn57 sub57 ab57 col57 dd57 k057 k157 k257 k357 k557 "ValueError.__new__"))
    (e59 : PySem.HandSPX.refsVE bm57 = true)
    (e60 : PySem.W.findIn K (.ref C54) "__setattr__" = some (some (.builtin "object.__setattr__")))
    (e61 : PySem.W.findIn K (.ref C54) "__getattribute__" = some (some (.builtin "BaseException.__getattribute__")))
    (e62 : PySem.W.findIn K (.ref C54) "__getattr__" = some none)
    (e63 : PySem.W.findIn K (.ref C54) "__init__" = some (some (.ref f56)))
    (e64 : PySem.W.typeIn K (.ref f56) = some (.type "function"))
    (e65 : PySem.W.keepIn K (.ref C54) = true)
    (e66 : PySem.W.subIn K (.ref C54) (.type "BaseException") = some true)
    (e67 : PySem.W.subIn K (.ref C54) (.type "ValueError") = some true)
    (e68 : PySem.W.typeIn K (.ref C54) = some (.type "type"))
    (e69 : PySem.W.hasDictIn K C54 = true)
    (e70 : PySem.W.ks_superIn K C54 C54 "__init__" = some (some (.builtin "ValueError.__init__")))
    (e71 : PySem.W.mroIn K C54 (.ref C54) = some true)
    (e72 : PySem.W.exmOne K (.ref C54) (.ref C54) = some true)
    (e73 : K.lookup f56 = some ⟨oc57, od57, .func (PySem.W.ksFn "__init__" "BadMode.__init__" (defArgs s_BadModeU_initU) (defBody s_BadModeU_initU) (defScope s_BadModeU_initU) .none .none doc57 pm57 an57 (.ref cda57) ct57 cc57), osl57⟩)
    (e74 : PySem.W.codeIn K (.ref cda57) "BadMode.__init__" = true)
    (e75 : K.lookup cda57 = some ⟨ccl57, cdd57, .fields vs57, ccs57⟩)
    (e76 : vs57[2]? = some (.str P.main.file tf57))
    (e77 : K.lookup cc57 = some ⟨cl57, cld57, .cell (some (.ref C54)), csl57⟩)
    (e78 : PySem.W.findIn K (.ref C54) "mode" = some none)
    (a80 : PySem.W.nsIn K mainGlobals "BadMove" = some (some (.ref C79)))
    (e83 : K.lookup C79 = some (excClassObj nm82 qn82 C79 N82 bs82 bm82 true sn82 sub82 ab82 col82 dd82 k082 k182 k282 k382 k582 "ValueError.__new__"))
    (e84 : PySem.HandSPX.refsVE bm82 = true)
    (e85 : PySem.W.findIn K (.ref C79) "__setattr__" = some (some (.builtin "object.__setattr__")))
    (e86 : PySem.W.findIn K (.ref C79) "__getattribute__" = some (some (.builtin "BaseException.__getattribute__")))
    (e87 : PySem.W.findIn K (.ref C79) "__getattr__" = some none)
    (e88 : PySem.W.findIn K (.ref C79) "__init__" = some (some (.ref f81)))
    (e89 : PySem.W.typeIn K (.ref f81) = some (.type "function"))
    (e90 : PySem.W.keepIn K (.ref C79) = true)
    (e91 : PySem.W.subIn K (.ref C79) (.type "BaseException") = some true)
    (e92 : PySem.W.subIn K (.ref C79) (.type "ValueError") = some true)
    (e93 : PySem.W.typeIn K (.ref C79) = some (.type "type"))
    (e94 : PySem.W.hasDictIn K C79 = true)
    (e95 : PySem.W.ks_superIn K C79 C79 "__init__" = some (some (.builtin "ValueError.__init__")))
    (e96 : PySem.W.mroIn K C79 (.ref C79) = some true)
    (e97 : PySem.W.exmOne K (.ref C79) (.ref C79) = some true)
    (e98 : K.lookup f81 = some ⟨oc82, od82, .func (PySem.W.ksFn "__init__" "BadMove.__init__" (defArgs s_BadMoveU_initU) (defBody s_BadMoveU_initU) (defScope s_BadMoveU_initU) .none .none doc82 pm82 an82 (.ref cda82) ct82 cc82), osl82⟩)
    (e99 : PySem.W.codeIn K (.ref cda82) "BadMove.__init__" = true)
    (e100 : K.lookup cda82 = some ⟨ccl82, cdd82, .fields vs82, ccs82⟩)
    (e101 : vs82[2]? = some (.str P.main.file tf82))
    (e102 : K.lookup cc82 = some ⟨cl82, cld82, .cell (some (.ref C79)), csl82⟩)
    (e103 : PySem.W.findIn K (.ref C79) "thing" = some none)
    (a105 : PySem.W.nsIn K mainGlobals "BadRecords" = some (some (.ref C104)))
    (e108 : K.lookup C104 = some (excClassObj nm107 qn107 C104 N107 bs107 bm107 true sn107 sub107 ab107 col107 dd107 k0107 k1107 k2107 k3107 k5107 "ValueError.__new__"))
    (e109 : PySem.HandSPX.refsVE bm107 = true)
    (e110 : PySem.W.findIn K (.ref C104) "__setattr__" = some (some (.builtin "object.__setattr__")))
    (e111 : PySem.W.findIn K (.ref C104) "__getattribute__" = some (some (.builtin "BaseException.__getattribute__")))
    (e112 : PySem.W.findIn K (.ref C104) "__getattr__" = some none)
    (e113 : PySem.W.findIn K (.ref C104) "__init__" = some (some (.ref f106)))
    (e114 : PySem.W.typeIn K (.ref f106) = some (.type "function"))
    (e115 : PySem.W.keepIn K (.ref C104) = true)
    (e116 : PySem.W.subIn K (.ref C104) (.type "BaseException") = some true)
    (e117 : PySem.W.subIn K (.ref C104) (.type "ValueError") = some true)
    (e118 : PySem.W.typeIn K (.ref C104) = some (.type "type"))
    (e119 : PySem.W.hasDictIn K C104 = true)
    (e120 : PySem.W.ks_superIn K C104 C104 "__init__" = some (some (.builtin "ValueError.__init__")))
    (e121 : PySem.W.mroIn K C104 (.ref C104) = some true)
    (e122 : PySem.W.exmOne K (.ref C104) (.ref C104) = some true)
    (e123 : K.lookup f106 = some ⟨oc107, od107, .func (PySem.W.ksFn "__init__" "BadRecords.__init__" (defArgs s_BadRecordsU_initU) (defBody s_BadRecordsU_initU) (defScope s_BadRecordsU_initU) .none .none doc107 pm107 an107 (.ref cda107) ct107 cc107), osl107⟩)
    (e124 : PySem.W.codeIn K (.ref cda107) "BadRecords.__init__" = true)
    (e125 : K.lookup cda107 = some ⟨ccl107, cdd107, .fields vs107, ccs107⟩)
    (e126 : vs107[2]? = some (.str P.main.file tf107))
    (e127 : K.lookup cc107 = some ⟨cl107, cld107, .cell (some (.ref C104)), csl107⟩)
    (e128 : PySem.W.findIn K (.ref C104) "record" = some none)
    (a130 : PySem.W.nsIn K mainGlobals "BadWord" = some (some (.ref C129)))
    (e133 : K.lookup C129 = some (excClassObj nm132 qn132 C129 N132 bs132 bm132 true sn132 sub132 ab132 col132 dd132 k0132 k1132 k2132 k3132 k5132 "ValueError.__new__"))
    (e134 : PySem.HandSPX.refsVE bm132 = true)
    (e135 : PySem.W.findIn K (.ref C129) "__setattr__" = some (some (.builtin "object.__setattr__")))
    (e136 : PySem.W.findIn K (.ref C129) "__getattribute__" = some (some (.builtin "BaseException.__getattribute__")))
    (e137 : PySem.W.findIn K (.ref C129) "__getattr__" = some none)
    (e138 : PySem.W.findIn K (.ref C129) "__init__" = some (some (.ref f131)))
    (e139 : PySem.W.typeIn K (.ref f131) = some (.type "function"))
    (e140 : PySem.W.keepIn K (.ref C129) = true)
    (e141 : PySem.W.subIn K (.ref C129) (.type "BaseException") = some true)
    (e142 : PySem.W.subIn K (.ref C129) (.type "ValueError") = some true)
    (e143 : PySem.W.typeIn K (.ref C129) = some (.type "type"))
    (e144 : PySem.W.hasDictIn K C129 = true)
    (e145 : PySem.W.ks_superIn K C129 C129 "__init__" = some (some (.builtin "ValueError.__init__")))
    (e146 : PySem.W.mroIn K C129 (.ref C129) = some true)
    (e147 : PySem.W.exmOne K (.ref C129) (.ref C129) = some true)
    (e148 : K.lookup f131 = some ⟨oc132, od132, .func (PySem.W.ksFn "__init__" "BadWord.__init__" (defArgs s_BadWordU_initU) (defBody s_BadWordU_initU) (defScope s_BadWordU_initU) .none .none doc132 pm132 an132 (.ref cda132) ct132 cc132), osl132⟩)
    (e149 : PySem.W.codeIn K (.ref cda132) "BadWord.__init__" = true)
    (e150 : K.lookup cda132 = some ⟨ccl132, cdd132, .fields vs132, ccs132⟩)
    (e151 : vs132[2]? = some (.str P.main.file tf132))
    (e152 : K.lookup cc132 = some ⟨cl132, cld132, .cell (some (.ref C129)), csl132⟩)
    (e153 : PySem.W.findIn K (.ref C129) "word" = some none)
    (a155 : PySem.W.nsIn K mainGlobals "Clash" = some (some (.ref C154)))
    (e158 : K.lookup C154 = some (excClassObj nm157 qn157 C154 N157 bs157 bm157 true sn157 sub157 ab157 col157 dd157 k0157 k1157 k2157 k3157 k5157 "ValueError.__new__"))
    (e159 : PySem.HandSPX.refsVE bm157 = true)
    (e160 : PySem.W.findIn K (.ref C154) "__setattr__" = some (some (.builtin "object.__setattr__")))
    (e161 : PySem.W.findIn K (.ref C154) "__getattribute__" = some (some (.builtin "BaseException.__getattribute__")))
    (e162 : PySem.W.findIn K (.ref C154) "__getattr__" = some none)
    (e163 : PySem.W.findIn K (.ref C154) "__init__" = some (some (.ref f156)))
    (e164 : PySem.W.typeIn K (.ref f156) = some (.type "function"))
    (e165 : PySem.W.keepIn K (.ref C154) = true)
    (e166 : PySem.W.subIn K (.ref C154) (.type "BaseException") = some true)
    (e167 : PySem.W.subIn K (.ref C154) (.type "ValueError") = some true)
    (e168 : PySem.W.typeIn K (.ref C154) = some (.type "type"))
    (e169 : PySem.W.hasDictIn K C154 = true)
    (e170 : PySem.W.ks_superIn K C154 C154 "__init__" = some (some (.builtin "ValueError.__init__")))
    (e171 : PySem.W.mroIn K C154 (.ref C154) = some true)
    (e172 : PySem.W.exmOne K (.ref C154) (.ref C154) = some true)
    (e173 : K.lookup f156 = some ⟨oc157, od157, .func (PySem.W.ksFn "__init__" "Clash.__init__" (defArgs s_ClashU_initU) (defBody s_ClashU_initU) (defScope s_ClashU_initU) .none .none doc157 pm157 an157 (.ref cda157) ct157 cc157), osl157⟩)
    (e174 : PySem.W.codeIn K (.ref cda157) "Clash.__init__" = true)
    (e175 : K.lookup cda157 = some ⟨ccl157, cdd157, .fields vs157, ccs157⟩)
    (e176 : vs157[2]? = some (.str P.main.file tf157))
    (e177 : K.lookup cc157 = some ⟨cl157, cld157, .cell (some (.ref C154)), csl157⟩)
    (e178 : PySem.W.findIn K (.ref C154) "name" = some none)
    (a180 : PySem.W.nsIn K mainGlobals "Doomed" = some (some (.ref C179)))
    (e183 : K.lookup C179 = some (excClassObj nm182 qn182 C179 N182 bs182 bm182 true sn182 sub182 ab182 col182 dd182 k0182 k1182 k2182 k3182 k5182 "ValueError.__new__"))
    (e184 : PySem.HandSPX.refsVE bm182 = true)
    (e185 : PySem.W.findIn K (.ref C179) "__setattr__" = some (some (.builtin "object.__setattr__")))
    (e186 : PySem.W.findIn K (.ref C179) "__getattribute__" = some (some (.builtin "BaseException.__getattribute__")))
    (e187 : PySem.W.findIn K (.ref C179) "__getattr__" = some none)
    (e188 : PySem.W.findIn K (.ref C179) "__init__" = some (some (.ref f181)))
    (e189 : PySem.W.typeIn K (.ref f181) = some (.type "function"))
    (e190 : PySem.W.keepIn K (.ref C179) = true)
    (e191 : PySem.W.subIn K (.ref C179) (.type "BaseException") = some true)
    (e192 : PySem.W.subIn K (.ref C179) (.type "ValueError") = some true)
    (e193 : PySem.W.typeIn K (.ref C179) = some (.type "type"))
    (e194 : PySem.W.hasDictIn K C179 = true)
    (e195 : PySem.W.ks_superIn K C179 C179 "__init__" = some (some (.builtin "ValueError.__init__")))
    (e196 : PySem.W.mroIn K C179 (.ref C179) = some true)
    (e197 : PySem.W.exmOne K (.ref C179) (.ref C179) = some true)
    (e198 : K.lookup f181 = some ⟨oc182, od182, .func (PySem.W.ksFn "__init__" "Doomed.__init__" (defArgs s_DoomedU_initU) (defBody s_DoomedU_initU) (defScope s_DoomedU_initU) .none .none doc182 pm182 an182 (.ref cda182) ct182 cc182), osl182⟩)
    (e199 : PySem.W.codeIn K (.ref cda182) "Doomed.__init__" = true)
    (e200 : K.lookup cda182 = some ⟨ccl182, cdd182, .fields vs182, ccs182⟩)
    (e201 : vs182[2]? = some (.str P.main.file tf182))
    (e202 : K.lookup cc182 = some ⟨cl182, cld182, .cell (some (.ref C179)), csl182⟩)
    (e203 : PySem.W.findIn K (.ref C179) "word" = some none)
    (e204 : PySem.W.findIn K (.ref C179) "first" = some none)
    (a206 : PySem.W.nsIn K mainGlobals "Endless" = some (some (.ref C205)))
    (e209 : K.lookup C205 = some (excClassObj nm208 qn208 C205 N208 bs208 bm208 true sn208 sub208 ab208 col208 dd208 k0208 k1208 k2208 k3208 k5208 "ValueError.__new__"))
    (e210 : PySem.HandSPX.refsVE bm208 = true)
    (e211 : PySem.W.findIn K (.ref C205) "__setattr__" = some (some (.builtin "object.__setattr__")))
    (e212 : PySem.W.findIn K (.ref C205) "__getattribute__" = some (some (.builtin "BaseException.__getattribute__")))
    (e213 : PySem.W.findIn K (.ref C205) "__getattr__" = some none)
    (e214 : PySem.W.findIn K (.ref C205) "__init__" = some (some (.ref f207)))
    (e215 : PySem.W.typeIn K (.ref f207) = some (.type "function"))
    (e216 : PySem.W.keepIn K (.ref C205) = true)
    (e217 : PySem.W.subIn K (.ref C205) (.type "BaseException") = some true)
    (e218 : PySem.W.subIn K (.ref C205) (.type "ValueError") = some true)
    (e219 : PySem.W.typeIn K (.ref C205) = some (.type "type"))
    (e220 : PySem.W.hasDictIn K C205 = true)
    (e221 : PySem.W.ks_superIn K C205 C205 "__init__" = some (some (.builtin "ValueError.__init__")))
    (e222 : PySem.W.mroIn K C205 (.ref C205) = some true)
    (e223 : PySem.W.exmOne K (.ref C205) (.ref C205) = some true)
    (e224 : K.lookup f207 = some ⟨oc208, od208, .func (PySem.W.ksFn "__init__" "Endless.__init__" (defArgs s_EndlessU_initU) (defBody s_EndlessU_initU) (defScope s_EndlessU_initU) .none .none doc208 pm208 an208 (.ref cda208) ct208 cc208), osl208⟩)
    (e225 : PySem.W.codeIn K (.ref cda208) "Endless.__init__" = true)
    (e226 : K.lookup cda208 = some ⟨ccl208, cdd208, .fields vs208, ccs208⟩)
    (e227 : vs208[2]? = some (.str P.main.file tf208))
    (e228 : K.lookup cc208 = some ⟨cl208, cld208, .cell (some (.ref C205)), csl208⟩)
    (e229 : PySem.W.findIn K (.ref C205) "name" = some none)
    (a231 : PySem.W.nsIn K mainGlobals "Failed" = some (some (.ref C230)))
    (e234 : K.lookup C230 = some (excClassObj nm233 qn233 C230 N233 bs233 bm233 true sn233 sub233 ab233 col233 dd233 k0233 k1233 k2233 k3233 k5233 "ValueError.__new__"))
    (e235 : PySem.HandSPX.refsVE bm233 = true)
    (e236 : PySem.W.findIn K (.ref C230) "__setattr__" = some (some (.builtin "object.__setattr__")))
    (e237 : PySem.W.findIn K (.ref C230) "__getattribute__" = some (some (.builtin "BaseException.__getattribute__")))
    (e238 : PySem.W.findIn K (.ref C230) "__getattr__" = some none)
    (e239 : PySem.W.findIn K (.ref C230) "__init__" = some (some (.ref f232)))
    (e240 : PySem.W.typeIn K (.ref f232) = some (.type "function"))
    (e241 : PySem.W.keepIn K (.ref C230) = true)
    (e242 : PySem.W.subIn K (.ref C230) (.type "BaseException") = some true)
    (e243 : PySem.W.subIn K (.ref C230) (.type "ValueError") = some true)
    (e244 : PySem.W.typeIn K (.ref C230) = some (.type "type"))
    (e245 : PySem.W.hasDictIn K C230 = true)
    (e246 : PySem.W.ks_superIn K C230 C230 "__init__" = some (some (.builtin "ValueError.__init__")))
    (e247 : PySem.W.mroIn K C230 (.ref C230) = some true)
    (e248 : PySem.W.exmOne K (.ref C230) (.ref C230) = some true)
    (e249 : K.lookup f232 = some ⟨oc233, od233, .func (PySem.W.ksFn "__init__" "Failed.__init__" (defArgs s_FailedU_initU) (defBody s_FailedU_initU) (defScope s_FailedU_initU) .none .none doc233 pm233 an233 (.ref cda233) ct233 cc233), osl233⟩)
    (e250 : PySem.W.codeIn K (.ref cda233) "Failed.__init__" = true)
    (e251 : K.lookup cda233 = some ⟨ccl233, cdd233, .fields vs233, ccs233⟩)
    (e252 : vs233[2]? = some (.str P.main.file tf233))
    (e253 : K.lookup cc233 = some ⟨cl233, cld233, .cell (some (.ref C230)), csl233⟩)
    (e254 : PySem.W.findIn K (.ref C230) "word" = some none)
    (a256 : PySem.W.nsIn K mainGlobals "Missing" = some (some (.ref C255)))
    (e259 : K.lookup C255 = some (excClassObj nm258 qn258 C255 N258 bs258 bm258 true sn258 sub258 ab258 col258 dd258 k0258 k1258 k2258 k3258 k5258 "ValueError.__new__"))
    (e260 : PySem.HandSPX.refsVE bm258 = true)
    (e261 : PySem.W.findIn K (.ref C255) "__setattr__" = some (some (.builtin "object.__setattr__")))
    (e262 : PySem.W.findIn K (.ref C255) "__getattribute__" = some (some (.builtin "BaseException.__getattribute__")))
    (e263 : PySem.W.findIn K (.ref C255) "__getattr__" = some none)
    (e264 : PySem.W.findIn K (.ref C255) "__init__" = some (some (.ref f257)))
    (e265 : PySem.W.typeIn K (.ref f257) = some (.type "function"))
    (e266 : PySem.W.keepIn K (.ref C255) = true)
    (e267 : PySem.W.subIn K (.ref C255) (.type "BaseException") = some true)
    (e268 : PySem.W.subIn K (.ref C255) (.type "ValueError") = some true)
    (e269 : PySem.W.typeIn K (.ref C255) = some (.type "type"))
    (e270 : PySem.W.hasDictIn K C255 = true)
    (e271 : PySem.W.ks_superIn K C255 C255 "__init__" = some (some (.builtin "ValueError.__init__")))
    (e272 : PySem.W.mroIn K C255 (.ref C255) = some true)
    (e273 : PySem.W.exmOne K (.ref C255) (.ref C255) = some true)
    (e274 : K.lookup f257 = some ⟨oc258, od258, .func (PySem.W.ksFn "__init__" "Missing.__init__" (defArgs s_MissingU_initU) (defBody s_MissingU_initU) (defScope s_MissingU_initU) .none .none doc258 pm258 an258 (.ref cda258) ct258 cc258), osl258⟩)
    (e275 : PySem.W.codeIn K (.ref cda258) "Missing.__init__" = true)
    (e276 : K.lookup cda258 = some ⟨ccl258, cdd258, .fields vs258, ccs258⟩)
    (e277 : vs258[2]? = some (.str P.main.file tf258))
    (e278 : K.lookup cc258 = some ⟨cl258, cld258, .cell (some (.ref C255)), csl258⟩)
    (e279 : PySem.W.findIn K (.ref C255) "word" = some none)
    (e280 : PySem.W.findIn K (.ref C255) "mode" = some none)
    (a282 : PySem.W.nsIn K mainGlobals "NoBlock" = some (some (.ref C281)))
    (e285 : K.lookup C281 = some (excClassObj nm284 qn284 C281 N284 bs284 bm284 true sn284 sub284 ab284 col284 dd284 k0284 k1284 k2284 k3284 k5284 "ValueError.__new__"))
    (e286 : PySem.HandSPX.refsVE bm284 = true)
    (e287 : PySem.W.findIn K (.ref C281) "__setattr__" = some (some (.builtin "object.__setattr__")))
    (e288 : PySem.W.findIn K (.ref C281) "__getattribute__" = some (some (.builtin "BaseException.__getattribute__")))
    (e289 : PySem.W.findIn K (.ref C281) "__getattr__" = some none)
    (e290 : PySem.W.findIn K (.ref C281) "__init__" = some (some (.ref f283)))
    (e291 : PySem.W.typeIn K (.ref f283) = some (.type "function"))
    (e292 : PySem.W.keepIn K (.ref C281) = true)
    (e293 : PySem.W.subIn K (.ref C281) (.type "BaseException") = some true)
    (e294 : PySem.W.subIn K (.ref C281) (.type "ValueError") = some true)
    (e295 : PySem.W.typeIn K (.ref C281) = some (.type "type"))
    (e296 : PySem.W.hasDictIn K C281 = true)
    (e297 : PySem.W.ks_superIn K C281 C281 "__init__" = some (some (.builtin "ValueError.__init__")))
    (e298 : PySem.W.mroIn K C281 (.ref C281) = some true)
    (e299 : PySem.W.exmOne K (.ref C281) (.ref C281) = some true)
    (e300 : K.lookup f283 = some ⟨oc284, od284, .func (PySem.W.ksFn "__init__" "NoBlock.__init__" (defArgs s_NoBlockU_initU) (defBody s_NoBlockU_initU) (defScope s_NoBlockU_initU) .none .none doc284 pm284 an284 (.ref cda284) ct284 cc284), osl284⟩)
    (e301 : PySem.W.codeIn K (.ref cda284) "NoBlock.__init__" = true)
    (e302 : K.lookup cda284 = some ⟨ccl284, cdd284, .fields vs284, ccs284⟩)
    (e303 : vs284[2]? = some (.str P.main.file tf284))
    (e304 : K.lookup cc284 = some ⟨cl284, cld284, .cell (some (.ref C281)), csl284⟩)
    (a306 : PySem.W.nsIn K mainGlobals "NoCall" = some (some (.ref C305)))
    (e309 : K.lookup C305 = some (excClassObj nm308 qn308 C305 N308 bs308 bm308 true sn308 sub308 ab308 col308 dd308 k0308 k1308 k2308 k3308 k5308 "ValueError.__new__"))
    (e310 : PySem.HandSPX.refsVE bm308 = true)
    (e311 : PySem.W.findIn K (.ref C305) "__setattr__" = some (some (.builtin "object.__setattr__")))
    (e312 : PySem.W.findIn K (.ref C305) "__getattribute__" = some (some (.builtin "BaseException.__getattribute__")))
    (e313 : PySem.W.findIn K (.ref C305) "__getattr__" = some none)
    (e314 : PySem.W.findIn K (.ref C305) "__init__" = some (some (.ref f307)))
    (e315 : PySem.W.typeIn K (.ref f307) = some (.type "function"))
    (e316 : PySem.W.keepIn K (.ref C305) = true)
    (e317 : PySem.W.subIn K (.ref C305) (.type "BaseException") = some true)
    (e318 : PySem.W.subIn K (.ref C305) (.type "ValueError") = some true)
    (e319 : PySem.W.typeIn K (.ref C305) = some (.type "type"))
    (e320 : PySem.W.hasDictIn K C305 = true)
    (e321 : PySem.W.ks_superIn K C305 C305 "__init__" = some (some (.builtin "ValueError.__init__")))
    (e322 : PySem.W.mroIn K C305 (.ref C305) = some true)
    (e323 : PySem.W.exmOne K (.ref C305) (.ref C305) = some true)
    (e324 : K.lookup f307 = some ⟨oc308, od308, .func (PySem.W.ksFn "__init__" "NoCall.__init__" (defArgs s_NoCallU_initU) (defBody s_NoCallU_initU) (defScope s_NoCallU_initU) .none .none doc308 pm308 an308 (.ref cda308) ct308 cc308), osl308⟩)
    (e325 : PySem.W.codeIn K (.ref cda308) "NoCall.__init__" = true)
    (e326 : K.lookup cda308 = some ⟨ccl308, cdd308, .fields vs308, ccs308⟩)
    (e327 : vs308[2]? = some (.str P.main.file tf308))
    (e328 : K.lookup cc308 = some ⟨cl308, cld308, .cell (some (.ref C305)), csl308⟩)
    (e329 : PySem.W.findIn K (.ref C305) "number" = some none)
    (a331 : PySem.W.nsIn K mainGlobals "NoFace" = some (some (.ref C330)))
    (e334 : K.lookup C330 = some (excClassObj nm333 qn333 C330 N333 bs333 bm333 true sn333 sub333 ab333 col333 dd333 k0333 k1333 k2333 k3333 k5333 "ValueError.__new__"))
    (e335 : PySem.HandSPX.refsVE bm333 = true)
    (e336 : PySem.W.findIn K (.ref C330) "__setattr__" = some (some (.builtin "object.__setattr__")))
    (e337 : PySem.W.findIn K (.ref C330) "__getattribute__" = some (some (.builtin "BaseException.__getattribute__")))
    (e338 : PySem.W.findIn K (.ref C330) "__getattr__" = some none)
    (e339 : PySem.W.findIn K (.ref C330) "__init__" = some (some (.ref f332)))
    (e340 : PySem.W.typeIn K (.ref f332) = some (.type "function"))
    (e341 : PySem.W.keepIn K (.ref C330) = true)
    (e342 : PySem.W.subIn K (.ref C330) (.type "BaseException") = some true)
    (e343 : PySem.W.subIn K (.ref C330) (.type "ValueError") = some true)
    (e344 : PySem.W.typeIn K (.ref C330) = some (.type "type"))
    (e345 : PySem.W.hasDictIn K C330 = true)
    (e346 : PySem.W.ks_superIn K C330 C330 "__init__" = some (some (.builtin "ValueError.__init__")))
    (e347 : PySem.W.mroIn K C330 (.ref C330) = some true)
    (e348 : PySem.W.exmOne K (.ref C330) (.ref C330) = some true)
    (e349 : K.lookup f332 = some ⟨oc333, od333, .func (PySem.W.ksFn "__init__" "NoFace.__init__" (defArgs s_NoFaceU_initU) (defBody s_NoFaceU_initU) (defScope s_NoFaceU_initU) .none .none doc333 pm333 an333 (.ref cda333) ct333 cc333), osl333⟩)
    (e350 : PySem.W.codeIn K (.ref cda333) "NoFace.__init__" = true)
    (e351 : K.lookup cda333 = some ⟨ccl333, cdd333, .fields vs333, ccs333⟩)
    (e352 : vs333[2]? = some (.str P.main.file tf333))
    (e353 : K.lookup cc333 = some ⟨cl333, cld333, .cell (some (.ref C330)), csl333⟩)
    (e354 : PySem.W.findIn K (.ref C330) "face" = some none)
    (a356 : PySem.W.nsIn K mainGlobals "NoFate" = some (some (.ref C355)))
    (e359 : K.lookup C355 = some (excClassObj nm358 qn358 C355 N358 bs358 bm358 true sn358 sub358 ab358 col358 dd358 k0358 k1358 k2358 k3358 k5358 "ValueError.__new__"))
    (e360 : PySem.HandSPX.refsVE bm358 = true)
    (e361 : PySem.W.findIn K (.ref C355) "__setattr__" = some (some (.builtin "object.__setattr__")))
    (e362 : PySem.W.findIn K (.ref C355) "__getattribute__" = some (some (.builtin "BaseException.__getattribute__")))
    (e363 : PySem.W.findIn K (.ref C355) "__getattr__" = some none)
    (e364 : PySem.W.findIn K (.ref C355) "__init__" = some (some (.ref f357)))
    (e365 : PySem.W.typeIn K (.ref f357) = some (.type "function"))
    (e366 : PySem.W.keepIn K (.ref C355) = true)
    (e367 : PySem.W.subIn K (.ref C355) (.type "BaseException") = some true)
    (e368 : PySem.W.subIn K (.ref C355) (.type "ValueError") = some true)
    (e369 : PySem.W.typeIn K (.ref C355) = some (.type "type"))
    (e370 : PySem.W.hasDictIn K C355 = true)
    (e371 : PySem.W.ks_superIn K C355 C355 "__init__" = some (some (.builtin "ValueError.__init__")))
    (e372 : PySem.W.mroIn K C355 (.ref C355) = some true)
    (e373 : PySem.W.exmOne K (.ref C355) (.ref C355) = some true)
    (e374 : K.lookup f357 = some ⟨oc358, od358, .func (PySem.W.ksFn "__init__" "NoFate.__init__" (defArgs s_NoFateU_initU) (defBody s_NoFateU_initU) (defScope s_NoFateU_initU) .none .none doc358 pm358 an358 (.ref cda358) ct358 cc358), osl358⟩)
    (e375 : PySem.W.codeIn K (.ref cda358) "NoFate.__init__" = true)
    (e376 : K.lookup cda358 = some ⟨ccl358, cdd358, .fields vs358, ccs358⟩)
    (e377 : vs358[2]? = some (.str P.main.file tf358))
    (e378 : K.lookup cc358 = some ⟨cl358, cld358, .cell (some (.ref C355)), csl358⟩)
    (e379 : PySem.W.findIn K (.ref C355) "kept" = some none)
    (a381 : PySem.W.nsIn K mainGlobals "NoFunction" = some (some (.ref C380)))
    (e384 : K.lookup C380 = some (excClassObj nm383 qn383 C380 N383 bs383 bm383 true sn383 sub383 ab383 col383 dd383 k0383 k1383 k2383 k3383 k5383 "ValueError.__new__"))
    (e385 : PySem.HandSPX.refsVE bm383 = true)
    (e386 : PySem.W.findIn K (.ref C380) "__setattr__" = some (some (.builtin "object.__setattr__")))
    (e387 : PySem.W.findIn K (.ref C380) "__getattribute__" = some (some (.builtin "BaseException.__getattribute__")))
    (e388 : PySem.W.findIn K (.ref C380) "__getattr__" = some none)
    (e389 : PySem.W.findIn K (.ref C380) "__init__" = some (some (.ref f382)))
    (e390 : PySem.W.typeIn K (.ref f382) = some (.type "function"))
    (e391 : PySem.W.keepIn K (.ref C380) = true)
    (e392 : PySem.W.subIn K (.ref C380) (.type "BaseException") = some true)
    (e393 : PySem.W.subIn K (.ref C380) (.type "ValueError") = some true)
    (e394 : PySem.W.typeIn K (.ref C380) = some (.type "type"))
    (e395 : PySem.W.hasDictIn K C380 = true)
    (e396 : PySem.W.ks_superIn K C380 C380 "__init__" = some (some (.builtin "ValueError.__init__")))
    (e397 : PySem.W.mroIn K C380 (.ref C380) = some true)
    (e398 : PySem.W.exmOne K (.ref C380) (.ref C380) = some true)
    (e399 : K.lookup f382 = some ⟨oc383, od383, .func (PySem.W.ksFn "__init__" "NoFunction.__init__" (defArgs s_NoFunctionU_initU) (defBody s_NoFunctionU_initU) (defScope s_NoFunctionU_initU) .none .none doc383 pm383 an383 (.ref cda383) ct383 cc383), osl383⟩)
    (e400 : PySem.W.codeIn K (.ref cda383) "NoFunction.__init__" = true)
    (e401 : K.lookup cda383 = some ⟨ccl383, cdd383, .fields vs383, ccs383⟩)
    (e402 : vs383[2]? = some (.str P.main.file tf383))
    (e403 : K.lookup cc383 = some ⟨cl383, cld383, .cell (some (.ref C380)), csl383⟩)
    (e404 : PySem.W.findIn K (.ref C380) "name" = some none)
    (a406 : PySem.W.nsIn K mainGlobals "NoRecord" = some (some (.ref C405)))
    (e409 : K.lookup C405 = some (excClassObj nm408 qn408 C405 N408 bs408 bm408 true sn408 sub408 ab408 col408 dd408 k0408 k1408 k2408 k3408 k5408 "ValueError.__new__"))
    (e410 : PySem.HandSPX.refsVE bm408 = true)
    (e411 : PySem.W.findIn K (.ref C405) "__setattr__" = some (some (.builtin "object.__setattr__")))
    (e412 : PySem.W.findIn K (.ref C405) "__getattribute__" = some (some (.builtin "BaseException.__getattribute__")))
    (e413 : PySem.W.findIn K (.ref C405) "__getattr__" = some none)
    (e414 : PySem.W.findIn K (.ref C405) "__init__" = some (some (.ref f407)))
    (e415 : PySem.W.typeIn K (.ref f407) = some (.type "function"))
    (e416 : PySem.W.keepIn K (.ref C405) = true)
    (e417 : PySem.W.subIn K (.ref C405) (.type "BaseException") = some true)
    (e418 : PySem.W.subIn K (.ref C405) (.type "ValueError") = some true)
    (e419 : PySem.W.typeIn K (.ref C405) = some (.type "type"))
    (e420 : PySem.W.hasDictIn K C405 = true)
    (e421 : PySem.W.ks_superIn K C405 C405 "__init__" = some (some (.builtin "ValueError.__init__")))
    (e422 : PySem.W.mroIn K C405 (.ref C405) = some true)
    (e423 : PySem.W.exmOne K (.ref C405) (.ref C405) = some true)
    (e424 : K.lookup f407 = some ⟨oc408, od408, .func (PySem.W.ksFn "__init__" "NoRecord.__init__" (defArgs s_NoRecordU_initU) (defBody s_NoRecordU_initU) (defScope s_NoRecordU_initU) .none .none doc408 pm408 an408 (.ref cda408) ct408 cc408), osl408⟩)
    (e425 : PySem.W.codeIn K (.ref cda408) "NoRecord.__init__" = true)
    (e426 : K.lookup cda408 = some ⟨ccl408, cdd408, .fields vs408, ccs408⟩)
    (e427 : vs408[2]? = some (.str P.main.file tf408))
    (e428 : K.lookup cc408 = some ⟨cl408, cld408, .cell (some (.ref C405)), csl408⟩)
    (e429 : PySem.W.findIn K (.ref C405) "record" = some none)
    (a431 : PySem.W.nsIn K mainGlobals "NoRow" = some (some (.ref C430)))
    (e434 : K.lookup C430 = some (excClassObj nm433 qn433 C430 N433 bs433 bm433 true sn433 sub433 ab433 col433 dd433 k0433 k1433 k2433 k3433 k5433 "ValueError.__new__"))
    (e435 : PySem.HandSPX.refsVE bm433 = true)
    (e436 : PySem.W.findIn K (.ref C430) "__setattr__" = some (some (.builtin "object.__setattr__")))
    (e437 : PySem.W.findIn K (.ref C430) "__getattribute__" = some (some (.builtin "BaseException.__getattribute__")))
    (e438 : PySem.W.findIn K (.ref C430) "__getattr__" = some none)
    (e439 : PySem.W.findIn K (.ref C430) "__init__" = some (some (.ref f432)))
    (e440 : PySem.W.typeIn K (.ref f432) = some (.type "function"))
    (e441 : PySem.W.keepIn K (.ref C430) = true)
    (e442 : PySem.W.subIn K (.ref C430) (.type "BaseException") = some true)
    (e443 : PySem.W.subIn K (.ref C430) (.type "ValueError") = some true)
    (e444 : PySem.W.typeIn K (.ref C430) = some (.type "type"))
    (e445 : PySem.W.hasDictIn K C430 = true)
    (e446 : PySem.W.ks_superIn K C430 C430 "__init__" = some (some (.builtin "ValueError.__init__")))
    (e447 : PySem.W.mroIn K C430 (.ref C430) = some true)
    (e448 : PySem.W.exmOne K (.ref C430) (.ref C430) = some true)
    (e449 : K.lookup f432 = some ⟨oc433, od433, .func (PySem.W.ksFn "__init__" "NoRow.__init__" (defArgs s_NoRowU_initU) (defBody s_NoRowU_initU) (defScope s_NoRowU_initU) .none .none doc433 pm433 an433 (.ref cda433) ct433 cc433), osl433⟩)
    (e450 : PySem.W.codeIn K (.ref cda433) "NoRow.__init__" = true)
    (e451 : K.lookup cda433 = some ⟨ccl433, cdd433, .fields vs433, ccs433⟩)
    (e452 : vs433[2]? = some (.str P.main.file tf433))
    (e453 : K.lookup cc433 = some ⟨cl433, cld433, .cell (some (.ref C430)), csl433⟩)
    (e454 : PySem.W.findIn K (.ref C430) "name" = some none)
    (e455 : PySem.W.findIn K (.ref C430) "case" = some none)
    (a457 : PySem.W.nsIn K mainGlobals "NotNow" = some (some (.ref C456)))
    (e460 : K.lookup C456 = some (excClassObj nm459 qn459 C456 N459 bs459 bm459 true sn459 sub459 ab459 col459 dd459 k0459 k1459 k2459 k3459 k5459 "ValueError.__new__"))
    (e461 : PySem.HandSPX.refsVE bm459 = true)
    (e462 : PySem.W.findIn K (.ref C456) "__setattr__" = some (some (.builtin "object.__setattr__")))
    (e463 : PySem.W.findIn K (.ref C456) "__getattribute__" = some (some (.builtin "BaseException.__getattribute__")))
    (e464 : PySem.W.findIn K (.ref C456) "__getattr__" = some none)
    (e465 : PySem.W.findIn K (.ref C456) "__init__" = some (some (.ref f458)))
    (e466 : PySem.W.typeIn K (.ref f458) = some (.type "function"))
    (e467 : PySem.W.keepIn K (.ref C456) = true)
    (e468 : PySem.W.subIn K (.ref C456) (.type "BaseException") = some true)
    (e469 : PySem.W.subIn K (.ref C456) (.type "ValueError") = some true)
    (e470 : PySem.W.typeIn K (.ref C456) = some (.type "type"))
    (e471 : PySem.W.hasDictIn K C456 = true)
    (e472 : PySem.W.ks_superIn K C456 C456 "__init__" = some (some (.builtin "ValueError.__init__")))
    (e473 : PySem.W.mroIn K C456 (.ref C456) = some true)
    (e474 : PySem.W.exmOne K (.ref C456) (.ref C456) = some true)
    (e475 : K.lookup f458 = some ⟨oc459, od459, .func (PySem.W.ksFn "__init__" "NotNow.__init__" (defArgs s_NotNowU_initU) (defBody s_NotNowU_initU) (defScope s_NotNowU_initU) .none .none doc459 pm459 an459 (.ref cda459) ct459 cc459), osl459⟩)
    (e476 : PySem.W.codeIn K (.ref cda459) "NotNow.__init__" = true)
    (e477 : K.lookup cda459 = some ⟨ccl459, cdd459, .fields vs459, ccs459⟩)
    (e478 : vs459[2]? = some (.str P.main.file tf459))
    (e479 : K.lookup cc459 = some ⟨cl459, cld459, .cell (some (.ref C456)), csl459⟩)
    (e480 : PySem.W.findIn K (.ref C456) "thing" = some none)
    (a482 : PySem.W.nsIn K mainGlobals "Present" = some (some (.ref C481)))
    (e485 : K.lookup C481 = some (excClassObj nm484 qn484 C481 N484 bs484 bm484 true sn484 sub484 ab484 col484 dd484 k0484 k1484 k2484 k3484 k5484 "ValueError.__new__"))
    (e486 : PySem.HandSPX.refsVE bm484 = true)
    (e487 : PySem.W.findIn K (.ref C481) "__setattr__" = some (some (.builtin "object.__setattr__")))
    (e488 : PySem.W.findIn K (.ref C481) "__getattribute__" = some (some (.builtin "BaseException.__getattribute__")))
    (e489 : PySem.W.findIn K (.ref C481) "__getattr__" = some none)
    (e490 : PySem.W.findIn K (.ref C481) "__init__" = some (some (.ref f483)))
    (e491 : PySem.W.typeIn K (.ref f483) = some (.type "function"))
    (e492 : PySem.W.keepIn K (.ref C481) = true)
    (e493 : PySem.W.subIn K (.ref C481) (.type "BaseException") = some true)
    (e494 : PySem.W.subIn K (.ref C481) (.type "ValueError") = some true)
    (e495 : PySem.W.typeIn K (.ref C481) = some (.type "type"))
    (e496 : PySem.W.hasDictIn K C481 = true)
    (e497 : PySem.W.ks_superIn K C481 C481 "__init__" = some (some (.builtin "ValueError.__init__")))
    (e498 : PySem.W.mroIn K C481 (.ref C481) = some true)
    (e499 : PySem.W.exmOne K (.ref C481) (.ref C481) = some true)
    (e500 : K.lookup f483 = some ⟨oc484, od484, .func (PySem.W.ksFn "__init__" "Present.__init__" (defArgs s_PresentU_initU) (defBody s_PresentU_initU) (defScope s_PresentU_initU) .none .none doc484 pm484 an484 (.ref cda484) ct484 cc484), osl484⟩)
    (e501 : PySem.W.codeIn K (.ref cda484) "Present.__init__" = true)
    (e502 : K.lookup cda484 = some ⟨ccl484, cdd484, .fields vs484, ccs484⟩)
    (e503 : vs484[2]? = some (.str P.main.file tf484))
    (e504 : K.lookup cc484 = some ⟨cl484, cld484, .cell (some (.ref C481)), csl484⟩)
    (e505 : PySem.W.findIn K (.ref C481) "word" = some none)
    (e506 : PySem.W.findIn K (.ref C481) "mode" = some none)
    (a508 : PySem.W.nsIn K mainGlobals "Refused" = some (some (.ref C507)))
    (e511 : K.lookup C507 = some (excClassObj nm510 qn510 C507 N510 bs510 bm510 true sn510 sub510 ab510 col510 dd510 k0510 k1510 k2510 k3510 k5510 "ValueError.__new__"))
    (e512 : PySem.HandSPX.refsVE bm510 = true)
    (e513 : PySem.W.findIn K (.ref C507) "__setattr__" = some (some (.builtin "object.__setattr__")))
    (e514 : PySem.W.findIn K (.ref C507) "__getattribute__" = some (some (.builtin "BaseException.__getattribute__")))
    (e515 : PySem.W.findIn K (.ref C507) "__getattr__" = some none)
    (e516 : PySem.W.findIn K (.ref C507) "__init__" = some (some (.ref f509)))
    (e517 : PySem.W.typeIn K (.ref f509) = some (.type "function"))
    (e518 : PySem.W.keepIn K (.ref C507) = true)
    (e519 : PySem.W.subIn K (.ref C507) (.type "BaseException") = some true)
    (e520 : PySem.W.subIn K (.ref C507) (.type "ValueError") = some true)
    (e521 : PySem.W.typeIn K (.ref C507) = some (.type "type"))
    (e522 : PySem.W.hasDictIn K C507 = true)
    (e523 : PySem.W.ks_superIn K C507 C507 "__init__" = some (some (.builtin "ValueError.__init__")))
    (e524 : PySem.W.mroIn K C507 (.ref C507) = some true)
    (e525 : PySem.W.exmOne K (.ref C507) (.ref C507) = some true)
    (e526 : K.lookup f509 = some ⟨oc510, od510, .func (PySem.W.ksFn "__init__" "Refused.__init__" (defArgs s_RefusedU_initU) (defBody s_RefusedU_initU) (defScope s_RefusedU_initU) .none .none doc510 pm510 an510 (.ref cda510) ct510 cc510), osl510⟩)
    (e527 : PySem.W.codeIn K (.ref cda510) "Refused.__init__" = true)
    (e528 : K.lookup cda510 = some ⟨ccl510, cdd510, .fields vs510, ccs510⟩)
    (e529 : vs510[2]? = some (.str P.main.file tf510))
    (e530 : K.lookup cc510 = some ⟨cl510, cld510, .cell (some (.ref C507)), csl510⟩)
    (e531 : PySem.W.findIn K (.ref C507) "word" = some none)
    (a533 : PySem.W.nsIn K mainGlobals "TooMany" = some (some (.ref C532)))
    (e536 : K.lookup C532 = some (excClassObj nm535 qn535 C532 N535 bs535 bm535 true sn535 sub535 ab535 col535 dd535 k0535 k1535 k2535 k3535 k5535 "ValueError.__new__"))
    (e537 : PySem.HandSPX.refsVE bm535 = true)
    (e538 : PySem.W.findIn K (.ref C532) "__setattr__" = some (some (.builtin "object.__setattr__")))
    (e539 : PySem.W.findIn K (.ref C532) "__getattribute__" = some (some (.builtin "BaseException.__getattribute__")))
    (e540 : PySem.W.findIn K (.ref C532) "__getattr__" = some none)
    (e541 : PySem.W.findIn K (.ref C532) "__init__" = some (some (.ref f534)))
    (e542 : PySem.W.typeIn K (.ref f534) = some (.type "function"))
    (e543 : PySem.W.keepIn K (.ref C532) = true)
    (e544 : PySem.W.subIn K (.ref C532) (.type "BaseException") = some true)
    (e545 : PySem.W.subIn K (.ref C532) (.type "ValueError") = some true)
    (e546 : PySem.W.typeIn K (.ref C532) = some (.type "type"))
    (e547 : PySem.W.hasDictIn K C532 = true)
    (e548 : PySem.W.ks_superIn K C532 C532 "__init__" = some (some (.builtin "ValueError.__init__")))
    (e549 : PySem.W.mroIn K C532 (.ref C532) = some true)
    (e550 : PySem.W.exmOne K (.ref C532) (.ref C532) = some true)
    (e551 : K.lookup f534 = some ⟨oc535, od535, .func (PySem.W.ksFn "__init__" "TooMany.__init__" (defArgs s_TooManyU_initU) (defBody s_TooManyU_initU) (defScope s_TooManyU_initU) .none .none doc535 pm535 an535 (.ref cda535) ct535 cc535), osl535⟩)
    (e552 : PySem.W.codeIn K (.ref cda535) "TooMany.__init__" = true)
    (e553 : K.lookup cda535 = some ⟨ccl535, cdd535, .fields vs535, ccs535⟩)
    (e554 : vs535[2]? = some (.str P.main.file tf535))
    (e555 : K.lookup cc535 = some ⟨cl535, cld535, .cell (some (.ref C532)), csl535⟩)
    (e556 : PySem.W.findIn K (.ref C532) "what" = some none)
    (a558 : PySem.W.nsIn K mainGlobals "Unknown" = some (some (.ref C557)))
    (e561 : K.lookup C557 = some (excClassObj nm560 qn560 C557 N560 bs560 bm560 true sn560 sub560 ab560 col560 dd560 k0560 k1560 k2560 k3560 k5560 "ValueError.__new__"))
    (e562 : PySem.HandSPX.refsVE bm560 = true)
    (e563 : PySem.W.findIn K (.ref C557) "__setattr__" = some (some (.builtin "object.__setattr__")))
    (e564 : PySem.W.findIn K (.ref C557) "__getattribute__" = some (some (.builtin "BaseException.__getattribute__")))
    (e565 : PySem.W.findIn K (.ref C557) "__getattr__" = some none)
    (e566 : PySem.W.findIn K (.ref C557) "__init__" = some (some (.ref f559)))
    (e567 : PySem.W.typeIn K (.ref f559) = some (.type "function"))
    (e568 : PySem.W.keepIn K (.ref C557) = true)
    (e569 : PySem.W.subIn K (.ref C557) (.type "BaseException") = some true)
    (e570 : PySem.W.subIn K (.ref C557) (.type "ValueError") = some true)
    (e571 : PySem.W.typeIn K (.ref C557) = some (.type "type"))
    (e572 : PySem.W.hasDictIn K C557 = true)
    (e573 : PySem.W.ks_superIn K C557 C557 "__init__" = some (some (.builtin "ValueError.__init__")))
    (e574 : PySem.W.mroIn K C557 (.ref C557) = some true)
    (e575 : PySem.W.exmOne K (.ref C557) (.ref C557) = some true)
    (e576 : K.lookup f559 = some ⟨oc560, od560, .func (PySem.W.ksFn "__init__" "Unknown.__init__" (defArgs s_UnknownU_initU) (defBody s_UnknownU_initU) (defScope s_UnknownU_initU) .none .none doc560 pm560 an560 (.ref cda560) ct560 cc560), osl560⟩)
    (e577 : PySem.W.codeIn K (.ref cda560) "Unknown.__init__" = true)
    (e578 : K.lookup cda560 = some ⟨ccl560, cdd560, .fields vs560, ccs560⟩)
    (e579 : vs560[2]? = some (.str P.main.file tf560))
    (e580 : K.lookup cc560 = some ⟨cl560, cld560, .cell (some (.ref C557)), csl560⟩)
    (e581 : PySem.W.findIn K (.ref C557) "name" = some none)
    (a583 : PySem.W.nsIn K mainGlobals "Unlike" = some (some (.ref C582)))
    (e586 : K.lookup C582 = some (excClassObj nm585 qn585 C582 N585 bs585 bm585 true sn585 sub585 ab585 col585 dd585 k0585 k1585 k2585 k3585 k5585 "ValueError.__new__"))
    (e587 : PySem.HandSPX.refsVE bm585 = true)
    (e588 : PySem.W.findIn K (.ref C582) "__setattr__" = some (some (.builtin "object.__setattr__")))
    (e589 : PySem.W.findIn K (.ref C582) "__getattribute__" = some (some (.builtin "BaseException.__getattribute__")))
    (e590 : PySem.W.findIn K (.ref C582) "__getattr__" = some none)
    (e591 : PySem.W.findIn K (.ref C582) "__init__" = some (some (.ref f584)))
    (e592 : PySem.W.typeIn K (.ref f584) = some (.type "function"))
    (e593 : PySem.W.keepIn K (.ref C582) = true)
    (e594 : PySem.W.subIn K (.ref C582) (.type "BaseException") = some true)
    (e595 : PySem.W.subIn K (.ref C582) (.type "ValueError") = some true)
    (e596 : PySem.W.typeIn K (.ref C582) = some (.type "type"))
    (e597 : PySem.W.hasDictIn K C582 = true)
    (e598 : PySem.W.ks_superIn K C582 C582 "__init__" = some (some (.builtin "ValueError.__init__")))
    (e599 : PySem.W.mroIn K C582 (.ref C582) = some true)
    (e600 : PySem.W.exmOne K (.ref C582) (.ref C582) = some true)
    (e601 : K.lookup f584 = some ⟨oc585, od585, .func (PySem.W.ksFn "__init__" "Unlike.__init__" (defArgs s_UnlikeU_initU) (defBody s_UnlikeU_initU) (defScope s_UnlikeU_initU) .none .none doc585 pm585 an585 (.ref cda585) ct585 cc585), osl585⟩)
    (e602 : PySem.W.codeIn K (.ref cda585) "Unlike.__init__" = true)
    (e603 : K.lookup cda585 = some ⟨ccl585, cdd585, .fields vs585, ccs585⟩)
    (e604 : vs585[2]? = some (.str P.main.file tf585))
    (e605 : K.lookup cc585 = some ⟨cl585, cld585, .cell (some (.ref C582)), csl585⟩)
    (e606 : PySem.W.findIn K (.ref C582) "name" = some none)
    (a608 : PySem.W.nsIn K mainGlobals "Waits" = some (some (.ref C607)))
    (e611 : K.lookup C607 = some (excClassObj nm610 qn610 C607 N610 bs610 bm610 true sn610 sub610 ab610 col610 dd610 k0610 k1610 k2610 k3610 k5610 "ValueError.__new__"))
    (e612 : PySem.HandSPX.refsVE bm610 = true)
    (e613 : PySem.W.findIn K (.ref C607) "__setattr__" = some (some (.builtin "object.__setattr__")))
    (e614 : PySem.W.findIn K (.ref C607) "__getattribute__" = some (some (.builtin "BaseException.__getattribute__")))
    (e615 : PySem.W.findIn K (.ref C607) "__getattr__" = some none)
    (e616 : PySem.W.findIn K (.ref C607) "__init__" = some (some (.ref f609)))
    (e617 : PySem.W.typeIn K (.ref f609) = some (.type "function"))
    (e618 : PySem.W.keepIn K (.ref C607) = true)
    (e619 : PySem.W.subIn K (.ref C607) (.type "BaseException") = some true)
    (e620 : PySem.W.subIn K (.ref C607) (.type "ValueError") = some true)
    (e621 : PySem.W.typeIn K (.ref C607) = some (.type "type"))
    (e622 : PySem.W.hasDictIn K C607 = true)
    (e623 : PySem.W.ks_superIn K C607 C607 "__init__" = some (some (.builtin "ValueError.__init__")))
    (e624 : PySem.W.mroIn K C607 (.ref C607) = some true)
    (e625 : PySem.W.exmOne K (.ref C607) (.ref C607) = some true)
    (e626 : K.lookup f609 = some ⟨oc610, od610, .func (PySem.W.ksFn "__init__" "Waits.__init__" (defArgs s_WaitsU_initU) (defBody s_WaitsU_initU) (defScope s_WaitsU_initU) .none .none doc610 pm610 an610 (.ref cda610) ct610 cc610), osl610⟩)
    (e627 : PySem.W.codeIn K (.ref cda610) "Waits.__init__" = true)
    (e628 : K.lookup cda610 = some ⟨ccl610, cdd610, .fields vs610, ccs610⟩)
    (e629 : vs610[2]? = some (.str P.main.file tf610))
    (e630 : K.lookup cc610 = some ⟨cl610, cld610, .cell (some (.ref C607)), csl610⟩)
    (e631 : PySem.W.findIn K (.ref C607) "word" = some none)
    (e632 : PySem.W.findIn K (.ref C607) "record" = some none)
    (z633 : kitAll K [C4, C29, C54, C79, C104, C129, C154, C179, C205, C230, C255, C281, C305, C330, C355, C380, C405, C430, C456, C481, C507, C532, C557, C582, C607] = true)
    (z634 : kitBase K C2 [C4, C29, C54, C79, C104, C129, C154, C179, C205, C230, C255, C281, C305, C330, C355, C380, C405, C430, C456, C481, C507, C532, C557, C582, C607] = true)
    (z635 : exkAll K [C4, C29, C54, C79, C104, C129, C154, C179, C205, C230, C255, C281, C305, C330, C355, C380, C405, C430, C456, C481, C507, C532, C557, C582, C607] = true)
    (z636 : PySem.W.specialIn K (.builtin "object.__class__") "__get__" = some (some (.builtin "getset_descriptor.__get__")))
    (z637 : PySem.W.takesIn K (.builtin "object.__class__") = some true)
    (a639 : PySem.W.nsIn K mainGlobals "_law_pool" = some (some (.ref f638)))
    (l640 : K.lookup f638 = some ⟨oc640, od640, .func (PySem.W.fnOf "_law_pool" "_law_pool" (defArgs s_law_pool) (defBody s_law_pool) (defScope s_law_pool) .none kV640 dc640 pm640 an640 cd640 ct640), sl640⟩)
    (c640 : PySem.W.codeIn K cd640 "_law_pool" = true)
    (k640 : PySem.W.keepIn K (.ref f638) = true)
    (a642 : PySem.W.nsIn K mainGlobals "_law_draw" = some (some (.ref f641)))
    (l643 : K.lookup f641 = some ⟨oc643, od643, .func (PySem.W.fnOf "_law_draw" "_law_draw" (defArgs s_law_draw) (defBody s_law_draw) (defScope s_law_draw) .none kV643 dc643 pm643 an643 cd643 ct643), sl643⟩)
    (c643 : PySem.W.codeIn K cd643 "_law_draw" = true)
    (k643 : PySem.W.keepIn K (.ref f641) = true)
    (a645 : PySem.W.nsIn K mainGlobals "_law_word" = some (some (.ref f644)))
    (l646 : K.lookup f644 = some ⟨oc646, od646, .func (PySem.W.fnOf "_law_word" "_law_word" (defArgs s_law_word) (defBody s_law_word) (defScope s_law_word) .none kV646 dc646 pm646 an646 cd646 ct646), sl646⟩)
    (c646 : PySem.W.codeIn K cd646 "_law_word" = true)
    (k646 : PySem.W.keepIn K (.ref f644) = true)
    (a648 : PySem.W.nsIn K mainGlobals "_law_thing" = some (some (.ref f647)))
    (l649 : K.lookup f647 = some ⟨oc649, od649, .func (PySem.W.fnOf "_law_thing" "_law_thing" (defArgs s_law_thing) (defBody s_law_thing) (defScope s_law_thing) .none kV649 dc649 pm649 an649 cd649 ct649), sl649⟩)
    (c649 : PySem.W.codeIn K cd649 "_law_thing" = true)
    (k649 : PySem.W.keepIn K (.ref f647) = true)
    (a651 : PySem.W.nsIn K mainGlobals "_law_classes" = some (some (.ref f650)))
    (l652 : K.lookup f650 = some ⟨oc652, od652, .func (PySem.W.fnOf "_law_classes" "_law_classes" (defArgs s_law_classes) (defBody s_law_classes) (defScope s_law_classes) .none kV652 dc652 pm652 an652 cd652 ct652), sl652⟩)
    (c652 : PySem.W.codeIn K cd652 "_law_classes" = true)
    (k652 : PySem.W.keepIn K (.ref f650) = true)
    (a654 : PySem.W.nsIn K mainGlobals "_law_first" = some (some (.ref f653)))
    (l655 : K.lookup f653 = some ⟨oc655, od655, .func (PySem.W.fnOf "_law_first" "_law_first" (defArgs s_law_first) (defBody s_law_first) (defScope s_law_first) .none kV655 dc655 pm655 an655 cd655 ct655), sl655⟩)
    (c655 : PySem.W.codeIn K cd655 "_law_first" = true)
    (k655 : PySem.W.keepIn K (.ref f653) = true)
    (a657 : PySem.W.nsIn K mainGlobals "_law_second" = some (some (.ref f656)))
    (l658 : K.lookup f656 = some ⟨oc658, od658, .func (PySem.W.fnOf "_law_second" "_law_second" (defArgs s_law_second) (defBody s_law_second) (defScope s_law_second) .none kV658 dc658 pm658 an658 cd658 ct658), sl658⟩)
    (c658 : PySem.W.codeIn K cd658 "_law_second" = true)
    (k658 : PySem.W.keepIn K (.ref f656) = true)
    (a660 : PySem.W.nsIn K mainGlobals "_law_fields" = some (some (.ref f659)))
    (l661 : K.lookup f659 = some ⟨oc661, od661, .func (PySem.W.fnOf "_law_fields" "_law_fields" (defArgs s_law_fields) (defBody s_law_fields) (defScope s_law_fields) .none kV661 dc661 pm661 an661 cd661 ct661), sl661⟩)
    (c661 : PySem.W.codeIn K cd661 "_law_fields" = true)
    (k661 : PySem.W.keepIn K (.ref f659) = true)
    (l662 : K.lookup fa = some ⟨oc662, od662, .func (PySem.W.fnOf "law" "law" (defArgs s_law) (defBody s_law) (defScope s_law) .none kV662 dc662 pm662 an662 cd662 ct662), sl662⟩)
    (c662 : PySem.W.codeIn K cd662 "law" = true)
    (k662 : PySem.W.keepIn K (.ref fa) = true)
    (z663 : PySem.W.nsIn K mainGlobals "len" = some none)
    (z664 : PySem.W.nsIn K mainGlobals "abs" = some none)
    (z665 : PySem.W.nsIn K mainGlobals "int" = some none)
    (z666 : PySem.W.nsIn K mainGlobals "range" = some none)
    (z667 : PySem.W.nsIn K mainGlobals "isinstance" = some none)
    (z668 : PySem.W.nsIn K mainGlobals "super" = some none)
    (z669 : PySem.W.nsIn K mainGlobals "max" = some none)
    (z670 : PySem.W.nsIn K mainGlobals "min" = some none)
    (z671 : PySem.W.nsIn K mainGlobals "ValueError" = some none)
    (z672 : PySem.W.nsIn K mainGlobals "repr" = some none)
    : ∃ fd : FuncData, (∀ (s : Shared) (v : Value), BindsTo s fd ⟨[v], []⟩ [("_law_script", v)]) ∧ ∀ base : Heap, K.In base → base.Ns mainGlobals mg → FnG P w K mg base CX0 9 fa fd ["_law_script"] (spLaw K) := by
  have F640 := fun_mk (st := s_law_pool) l640 c640 k640
  have b640 := F640.binds (ps := ["_law_script", "_law_at"]) fun _ _ _ _ _ _ us hl => match us, hl with | [_, _], _ => rfl
  have F643 := fun_mk (st := s_law_draw) l643 c643 k643
  have b643 := F643.binds (ps := ["_law_pool_here", "_law_many"]) fun _ _ _ _ _ _ us hl => match us, hl with | [_, _], _ => rfl
  have F646 := fun_mk (st := s_law_word) l646 c646 k646
  have b646 := F646.binds (ps := ["_law_pool_here"]) fun _ _ _ _ _ _ us hl => match us, hl with | [_], _ => rfl
  have F649 := fun_mk (st := s_law_thing) l649 c649 k649
  have b649 := F649.binds (ps := ["_law_pool_here"]) fun _ _ _ _ _ _ us hl => match us, hl with | [_], _ => rfl
  have F652 := fun_mk (st := s_law_classes) l652 c652 k652
  have b652 := F652.binds (ps := ["_law_e"]) fun _ _ _ _ _ _ us hl => match us, hl with | [_], _ => rfl
  have F655 := fun_mk (st := s_law_first) l655 c655 k655
  have b655 := F655.binds (ps := ["_law_one", "_law_two"]) fun _ _ _ _ _ _ us hl => match us, hl with | [_, _], _ => rfl
  have F658 := fun_mk (st := s_law_second) l658 c658 k658
  have b658 := F658.binds (ps := ["_law_one", "_law_two"]) fun _ _ _ _ _ _ us hl => match us, hl with | [_, _], _ => rfl
  have F661 := fun_mk (st := s_law_fields) l661 c661 k661
  have b661 := F661.binds (ps := ["_law_e", "_law_k"]) fun _ _ _ _ _ _ us hl => match us, hl with | [_, _], _ => rfl
  have F662 := fun_mk (st := s_law) l662 c662 k662
  have b662 := F662.binds (ps := ["_law_script"]) fun _ _ _ _ _ _ us hl => match us, hl with | [_], _ => rfl
  have T : Txt K mg ⟨C2, C4, f6, C29, f31, C54, f56, C79, f81, C104, f106, C129, f131, C154, f156, C179, f181, C205, f207, C230, f232, C255, f257, C281, f283, C305, f307, C330, f332, C355, f357, C380, f382, C405, f407, C430, f432, C456, f458, C481, f483, C507, f509, C532, f534, C557, f559, C582, f584, C607, f609, f638, f641, f644, f647, f650, f653, f656, f659, fa⟩ ⟨PySem.W.fnOf "_law_pool" "_law_pool" (defArgs s_law_pool) (defBody s_law_pool) (defScope s_law_pool) .none kV640 dc640 pm640 an640 cd640 ct640, PySem.W.fnOf "_law_draw" "_law_draw" (defArgs s_law_draw) (defBody s_law_draw) (defScope s_law_draw) .none kV643 dc643 pm643 an643 cd643 ct643, PySem.W.fnOf "_law_word" "_law_word" (defArgs s_law_word) (defBody s_law_word) (defScope s_law_word) .none kV646 dc646 pm646 an646 cd646 ct646, PySem.W.fnOf "_law_thing" "_law_thing" (defArgs s_law_thing) (defBody s_law_thing) (defScope s_law_thing) .none kV649 dc649 pm649 an649 cd649 ct649, PySem.W.fnOf "_law_classes" "_law_classes" (defArgs s_law_classes) (defBody s_law_classes) (defScope s_law_classes) .none kV652 dc652 pm652 an652 cd652 ct652, PySem.W.fnOf "_law_first" "_law_first" (defArgs s_law_first) (defBody s_law_first) (defScope s_law_first) .none kV655 dc655 pm655 an655 cd655 ct655, PySem.W.fnOf "_law_second" "_law_second" (defArgs s_law_second) (defBody s_law_second) (defScope s_law_second) .none kV658 dc658 pm658 an658 cd658 ct658, PySem.W.fnOf "_law_fields" "_law_fields" (defArgs s_law_fields) (defBody s_law_fields) (defScope s_law_fields) .none kV661 dc661 pm661 an661 cd661 ct661, PySem.W.fnOf "law" "law" (defArgs s_law) (defBody s_law) (defScope s_law) .none kV662 dc662 pm662 an662 cd662 ct662⟩ := ⟨PySem.W.mg_of X G a3, PySem.W.mg_of X G a5, ec_BadChange e8 e9 e10 e11 e12 e13 e14 e15 e16 e17 e18 e19 e20 e21 e22 z1 e23 e24 e25 e26 e27 e28, PySem.W.mg_of X G a30, ec_BadLibrary e33 e34 e35 e36 e37 e38 e39 e40 e41 e42 e43 e44 e45 e46 e47 z1 e48 e49 e50 e51 e52 e53, PySem.W.mg_of X G a55, ec_BadMode e58 e59 e60 e61 e62 e63 e64 e65 e66 e67 e68 e69 e70 e71 e72 z1 e73 e74 e75 e76 e77 e78, PySem.W.mg_of X G a80, ec_BadMove e83 e84 e85 e86 e87 e88 e89 e90 e91 e92 e93 e94 e95 e96 e97 z1 e98 e99 e100 e101 e102 e103, PySem.W.mg_of X G a105, ec_BadRecords e108 e109 e110 e111 e112 e113 e114 e115 e116 e117 e118 e119 e120 e121 e122 z1 e123 e124 e125 e126 e127 e128, PySem.W.mg_of X G a130, ec_BadWord e133 e134 e135 e136 e137 e138 e139 e140 e141 e142 e143 e144 e145 e146 e147 z1 e148 e149 e150 e151 e152 e153, PySem.W.mg_of X G a155, ec_Clash e158 e159 e160 e161 e162 e163 e164 e165 e166 e167 e168 e169 e170 e171 e172 z1 e173 e174 e175 e176 e177 e178, PySem.W.mg_of X G a180, ec_Doomed e183 e184 e185 e186 e187 e188 e189 e190 e191 e192 e193 e194 e195 e196 e197 z1 e198 e199 e200 e201 e202 e203 e204, PySem.W.mg_of X G a206, ec_Endless e209 e210 e211 e212 e213 e214 e215 e216 e217 e218 e219 e220 e221 e222 e223 z1 e224 e225 e226 e227 e228 e229, PySem.W.mg_of X G a231, ec_Failed e234 e235 e236 e237 e238 e239 e240 e241 e242 e243 e244 e245 e246 e247 e248 z1 e249 e250 e251 e252 e253 e254, PySem.W.mg_of X G a256, ec_Missing e259 e260 e261 e262 e263 e264 e265 e266 e267 e268 e269 e270 e271 e272 e273 z1 e274 e275 e276 e277 e278 e279 e280, PySem.W.mg_of X G a282, ec_NoBlock e285 e286 e287 e288 e289 e290 e291 e292 e293 e294 e295 e296 e297 e298 e299 z1 e300 e301 e302 e303 e304 , PySem.W.mg_of X G a306, ec_NoCall e309 e310 e311 e312 e313 e314 e315 e316 e317 e318 e319 e320 e321 e322 e323 z1 e324 e325 e326 e327 e328 e329, PySem.W.mg_of X G a331, ec_NoFace e334 e335 e336 e337 e338 e339 e340 e341 e342 e343 e344 e345 e346 e347 e348 z1 e349 e350 e351 e352 e353 e354, PySem.W.mg_of X G a356, ec_NoFate e359 e360 e361 e362 e363 e364 e365 e366 e367 e368 e369 e370 e371 e372 e373 z1 e374 e375 e376 e377 e378 e379, PySem.W.mg_of X G a381, ec_NoFunction e384 e385 e386 e387 e388 e389 e390 e391 e392 e393 e394 e395 e396 e397 e398 z1 e399 e400 e401 e402 e403 e404, PySem.W.mg_of X G a406, ec_NoRecord e409 e410 e411 e412 e413 e414 e415 e416 e417 e418 e419 e420 e421 e422 e423 z1 e424 e425 e426 e427 e428 e429, PySem.W.mg_of X G a431, ec_NoRow e434 e435 e436 e437 e438 e439 e440 e441 e442 e443 e444 e445 e446 e447 e448 z1 e449 e450 e451 e452 e453 e454 e455, PySem.W.mg_of X G a457, ec_NotNow e460 e461 e462 e463 e464 e465 e466 e467 e468 e469 e470 e471 e472 e473 e474 z1 e475 e476 e477 e478 e479 e480, PySem.W.mg_of X G a482, ec_Present e485 e486 e487 e488 e489 e490 e491 e492 e493 e494 e495 e496 e497 e498 e499 z1 e500 e501 e502 e503 e504 e505 e506, PySem.W.mg_of X G a508, ec_Refused e511 e512 e513 e514 e515 e516 e517 e518 e519 e520 e521 e522 e523 e524 e525 z1 e526 e527 e528 e529 e530 e531, PySem.W.mg_of X G a533, ec_TooMany e536 e537 e538 e539 e540 e541 e542 e543 e544 e545 e546 e547 e548 e549 e550 z1 e551 e552 e553 e554 e555 e556, PySem.W.mg_of X G a558, ec_Unknown e561 e562 e563 e564 e565 e566 e567 e568 e569 e570 e571 e572 e573 e574 e575 z1 e576 e577 e578 e579 e580 e581, PySem.W.mg_of X G a583, ec_Unlike e586 e587 e588 e589 e590 e591 e592 e593 e594 e595 e596 e597 e598 e599 e600 z1 e601 e602 e603 e604 e605 e606, PySem.W.mg_of X G a608, ec_Waits e611 e612 e613 e614 e615 e616 e617 e618 e619 e620 e621 e622 e623 e624 e625 z1 e626 e627 e628 e629 e630 e631 e632, z633, z634, z635, z636, z637, F640, b640, PySem.W.mg_of X G a639, F643, b643, PySem.W.mg_of X G a642, F646, b646, PySem.W.mg_of X G a645, F649, b649, PySem.W.mg_of X G a648, F652, b652, PySem.W.mg_of X G a651, F655, b655, PySem.W.mg_of X G a654, F658, b658, PySem.W.mg_of X G a657, F661, b661, PySem.W.mg_of X G a660, F662, b662, hfa, PySem.W.mg_none_of X G z663, PySem.W.mg_none_of X G z664, PySem.W.mg_none_of X G z665, PySem.W.mg_none_of X G z666, PySem.W.mg_none_of X G z667, PySem.W.mg_none_of X G z668, PySem.W.mg_none_of X G z669, PySem.W.mg_none_of X G z670, PySem.W.mg_none_of X G z671, PySem.W.mg_none_of X G z672⟩
  exact ⟨_, fun s v => .of_eq rfl, fun base _ _ => ok_law T⟩
theorem all_mk' {w : World} {K : PySem.W.Frag} {h : Heap} {mg : Str → Option Value} {fa f0 : Addr} (X : K.In h) (G : h.Ns mainGlobals mg) (hfa0 : mg "law" = some (.ref fa))
    {C2 : Addr}
    {C4 : Addr}
    {f6 : Addr} {nm7 qn7 : Str} {N7 : Addr} {bs7 bm7 : List Value} {sn7 : List Str} {sub7 : List Value} {ab7 : Bool} {col7 : Option Bool} {dd7 : Option Addr} {k07 k17 k27 k37 k57 : Option Value}
    {oc7 : Value} {od7 : Option Addr} {doc7 pm7 : Value} {an7 : Option Addr} {cda7 cc7 : Addr} {ct7 : Value} {osl7 : Array (Option Value)} {ccl7 : Value} {cdd7 : Option Addr} {vs7 : Array Value} {ccs7 : Array (Option Value)} {tf7 : Tok} {cl7 : Value} {cld7 : Option Addr} {csl7 : Array (Option Value)}
    {C29 : Addr}
    {f31 : Addr} {nm32 qn32 : Str} {N32 : Addr} {bs32 bm32 : List Value} {sn32 : List Str} {sub32 : List Value} {ab32 : Bool} {col32 : Option Bool} {dd32 : Option Addr} {k032 k132 k232 k332 k532 : Option Value}
    {oc32 : Value} {od32 : Option Addr} {doc32 pm32 : Value} {an32 : Option Addr} {cda32 cc32 : Addr} {ct32 : Value} {osl32 : Array (Option Value)} {ccl32 : Value} {cdd32 : Option Addr} {vs32 : Array Value} {ccs32 : Array (Option Value)} {tf32 : Tok} {cl32 : Value} {cld32 : Option Addr} {csl32 : Array (Option Value)}
    {C54 : Addr}
    {f56 : Addr} {nm57 qn57 : Str} {N57 : Addr} {bs57 bm57 : List Value} {sn57 : List Str} {sub57 : List Value} {ab57 : Bool} {col57 : Option Bool} {dd57 : Option Addr} {k057 k157 k257 k357 k557 : Option Value}
    {oc57 : Value} {od57 : Option Addr} {doc57 pm57 : Value} {an57 : Option Addr} {cda57 cc57 : Addr} {ct57 : Value} {osl57 : Array (Option Value)} {ccl57 : Value} {cdd57 : Option Addr} {vs57 : Array Value} {ccs57 : Array (Option Value)} {tf57 : Tok} {cl57 : Value} {cld57 : Option Addr} {csl57 : Array (Option Value)}
    {C79 : Addr}
    {f81 : Addr} {nm82 qn82 : Str} {N82 : Addr} {bs82 bm82 : List Value} {sn82 : List Str} {sub82 : List Value} {ab82 : Bool} {col82 : Option Bool} {dd82 : Option Addr} {k082 k182 k282 k382 k582 : Option Value}
    {oc82 : Value} {od82 : Option Addr} {doc82 pm82 : Value} {an82 : Option Addr} {cda82 cc82 : Addr} {ct82 : Value} {osl82 : Array (Option Value)} {ccl82 : Value} {cdd82 : Option Addr} {vs82 : Array Value} {ccs82 : Array (Option Value)} {tf82 : Tok} {cl82 : Value} {cld82 : Option Addr} {csl82 : Array (Option Value)}
    {C104 : Addr}
    {f106 : Addr} {nm107 qn107 : Str} {N107 : Addr} {bs107 bm107 : List Value} {sn107 : List Str} {sub107 : List Value} {ab107 : Bool} {col107 : Option Bool} {dd107 : Option Addr} {k0107 k1107 k2107 k3107 k5107 : Option Value}
    {oc107 : Value} {od107 : Option Addr} {doc107 pm107 : Value} {an107 : Option Addr} {cda107 cc107 : Addr} {ct107 : Value} {osl107 : Array (Option Value)} {ccl107 : Value} {cdd107 : Option Addr} {vs107 : Array Value} {ccs107 : Array (Option Value)} {tf107 : Tok} {cl107 : Value} {cld107 : Option Addr} {csl107 : Array (Option Value)}
    {C129 : Addr}
    {f131 : Addr} {nm132 qn132 : Str} {N132 : Addr} {bs132 bm132 : List Value} {sn132 : List Str} {sub132 : List Value} {ab132 : Bool} {col132 : Option Bool} {dd132 : Option Addr} {k0132 k1132 k2132 k3132 k5132 : Option Value}
    {oc132 : Value} {od132 : Option Addr} {doc132 pm132 : Value} {an132 : Option Addr} {cda132 cc132 : Addr} {ct132 : Value} {osl132 : Array (Option Value)} {ccl132 : Value} {cdd132 : Option Addr} {vs132 : Array Value} {ccs132 : Array (Option Value)} {tf132 : Tok} {cl132 : Value} {cld132 : Option Addr} {csl132 : Array (Option Value)}
    {C154 : Addr}
    {f156 : Addr} {nm157 qn157 : Str} {N157 : Addr} {bs157 bm157 : List Value} {sn157 : List Str} {sub157 : List Value} {ab157 : Bool} {col157 : Option Bool} {dd157 : Option Addr} {k0157 k1157 k2157 k3157 k5157 : Option Value}
    {oc157 : Value} {od157 : Option Addr} {doc157 pm157 : Value} {an157 : Option Addr} {cda157 cc157 : Addr} {ct157 : Value} {osl157 : Array (Option Value)} {ccl157 : Value} {cdd157 : Option Addr} {vs157 : Array Value} {ccs157 : Array (Option Value)} {tf157 : Tok} {cl157 : Value} {cld157 : Option Addr} {csl157 : Array (Option Value)}
    {C179 : Addr}
    {f181 : Addr} {nm182 qn182 : Str} {N182 : Addr} {bs182 bm182 : List Value} {sn182 : List Str} {sub182 : List Value} {ab182 : Bool} {col182 : Option Bool} {dd182 : Option Addr} {k0182 k1182 k2182 k3182 k5182 : Option Value}
    {oc182 : Value} {od182 : Option Addr} {doc182 pm182 : Value} {an182 : Option Addr} {cda182 cc182 : Addr} {ct182 : Value} {osl182 : Array (Option Value)} {ccl182 : Value} {cdd182 : Option Addr} {vs182 : Array Value} {ccs182 : Array (Option Value)} {tf182 : Tok} {cl182 : Value} {cld182 : Option Addr} {csl182 : Array (Option Value)}
    {C205 : Addr}
    {f207 : Addr} {nm208 qn208 : Str} {N208 : Addr} {bs208 bm208 : List Value} {sn208 : List Str} {sub208 : List Value} {ab208 : Bool} {col208 : Option Bool} {dd208 : Option Addr} {k0208 k1208 k2208 k3208 k5208 : Option Value}
    {oc208 : Value} {od208 : Option Addr} {doc208 pm208 : Value} {an208 : Option Addr} {cda208 cc208 : Addr} {ct208 : Value} {osl208 : Array (Option Value)} {ccl208 : Value} {cdd208 : Option Addr} {vs208 : Array Value} {ccs208 : Array (Option Value)} {tf208 : Tok} {cl208 : Value} {cld208 : Option Addr} {csl208 : Array (Option Value)}
    {C230 : Addr}
    {f232 : Addr} {nm233 qn233 : Str} {N233 : Addr} {bs233 bm233 : List Value} {sn233 : List Str} {sub233 : List Value} {ab233 : Bool} {col233 : Option Bool} {dd233 : Option Addr} {k0233 k1233 k2233 k3233 k5233 : Option Value}
    {oc233 : Value} {od233 : Option Addr} {doc233 pm233 : Value} {an233 : Option Addr} {cda233 cc233 : Addr} {ct233 : Value} {osl233 : Array (Option Value)} {ccl233 : Value} {cdd233 : Option Addr} {vs233 : Array Value} {ccs233 : Array (Option Value)} {tf233 : Tok} {cl233 : Value} {cld233 : Option Addr} {csl233 : Array (Option Value)}
    {C255 : Addr}
    {f257 : Addr} {nm258 qn258 : Str} {N258 : Addr} {bs258 bm258 : List Value} {sn258 : List Str} {sub258 : List Value} {ab258 : Bool} {col258 : Option Bool} {dd258 : Option Addr} {k0258 k1258 k2258 k3258 k5258 : Option Value}
    {oc258 : Value} {od258 : Option Addr} {doc258 pm258 : Value} {an258 : Option Addr} {cda258 cc258 : Addr} {ct258 : Value} {osl258 : Array (Option Value)} {ccl258 : Value} {cdd258 : Option Addr} {vs258 : Array Value} {ccs258 : Array (Option Value)} {tf258 : Tok} {cl258 : Value} {cld258 : Option Addr} {csl258 : Array (Option Value)}
    {C281 : Addr}
    {f283 : Addr} {nm284 qn284 : Str} {N284 : Addr} {bs284 bm284 : List Value} {sn284 : List Str} {sub284 : List Value} {ab284 : Bool} {col284 : Option Bool} {dd284 : Option Addr} {k0284 k1284 k2284 k3284 k5284 : Option Value}
    {oc284 : Value} {od284 : Option Addr} {doc284 pm284 : Value} {an284 : Option Addr} {cda284 cc284 : Addr} {ct284 : Value} {osl284 : Array (Option Value)} {ccl284 : Value} {cdd284 : Option Addr} {vs284 : Array Value} {ccs284 : Array (Option Value)} {tf284 : Tok} {cl284 : Value} {cld284 : Option Addr} {csl284 : Array (Option Value)}
    {C305 : Addr}
    {f307 : Addr} {nm308 qn308 : Str} {N308 : Addr} {bs308 bm308 : List Value} {sn308 : List Str} {sub308 : List Value} {ab308 : Bool} {col308 : Option Bool} {dd308 : Option Addr} {k0308 k1308 k2308 k3308 k5308 : Option Value}
    {oc308 : Value} {od308 : Option Addr} {doc308 pm308 : Value} {an308 : Option Addr} {cda308 cc308 : Addr} {ct308 : Value} {osl308 : Array (Option Value)} {ccl308 : Value} {cdd308 : Option Addr} {vs308 : Array Value} {ccs308 : Array (Option Value)} {tf308 : Tok} {cl308 : Value} {cld308 : Option Addr} {csl308 : Array (Option Value)}
    {C330 : Addr}
    {f332 : Addr} {nm333 qn333 : Str} {N333 : Addr} {bs333 bm333 : List Value} {sn333 : List Str} {sub333 : List Value} {ab333 : Bool} {col333 : Option Bool} {dd333 : Option Addr} {k0333 k1333 k2333 k3333 k5333 : Option Value}
    {oc333 : Value} {od333 : Option Addr} {doc333 pm333 : Value} {an333 : Option Addr} {cda333 cc333 : Addr} {ct333 : Value} {osl333 : Array (Option Value)} {ccl333 : Value} {cdd333 : Option Addr} {vs333 : Array Value} {ccs333 : Array (Option Value)} {tf333 : Tok} {cl333 : Value} {cld333 : Option Addr} {csl333 : Array (Option Value)}
    {C355 : Addr}
    {f357 : Addr} {nm358 qn358 : Str} {N358 : Addr} {bs358 bm358 : List Value} {sn358 : List Str} {sub358 : List Value} {ab358 : Bool} {col358 : Option Bool} {dd358 : Option Addr} {k0358 k1358 k2358 k3358 k5358 : Option Value}
    {oc358 : Value} {od358 : Option Addr} {doc358 pm358 : Value} {an358 : Option Addr} {cda358 cc358 : Addr} {ct358 : Value} {osl358 : Array (Option Value)} {ccl358 : Value} {cdd358 : Option Addr} {vs358 : Array Value} {ccs358 : Array (Option Value)} {tf358 : Tok} {cl358 : Value} {cld358 : Option Addr} {csl358 : Array (Option Value)}
    {C380 : Addr}
    {f382 : Addr} {nm383 qn383 : Str} {N383 : Addr} {bs383 bm383 : List Value} {sn383 : List Str} {sub383 : List Value} {ab383 : Bool} {col383 : Option Bool} {dd383 : Option Addr} {k0383 k1383 k2383 k3383 k5383 : Option Value}
    {oc383 : Value} {od383 : Option Addr} {doc383 pm383 : Value} {an383 : Option Addr} {cda383 cc383 : Addr} {ct383 : Value} {osl383 : Array (Option Value)} {ccl383 : Value} {cdd383 : Option Addr} {vs383 : Array Value} {ccs383 : Array (Option Value)} {tf383 : Tok} {cl383 : Value} {cld383 : Option Addr} {csl383 : Array (Option Value)}
    {C405 : Addr}
    {f407 : Addr} {nm408 qn408 : Str} {N408 : Addr} {bs408 bm408 : List Value} {sn408 : List Str} {sub408 : List Value} {ab408 : Bool} {col408 : Option Bool} {dd408 : Option Addr} {k0408 k1408 k2408 k3408 k5408 : Option Value}
    {oc408 : Value} {od408 : Option Addr} {doc408 pm408 : Value} {an408 : Option Addr} {cda408 cc408 : Addr} {ct408 : Value} {osl408 : Array (Option Value)} {ccl408 : Value} {cdd408 : Option Addr} {vs408 : Array Value} {ccs408 : Array (Option Value)} {tf408 : Tok} {cl408 : Value} {cld408 : Option Addr} {csl408 : Array (Option Value)}
    {C430 : Addr}
    {f432 : Addr} {nm433 qn433 : Str} {N433 : Addr} {bs433 bm433 : List Value} {sn433 : List Str} {sub433 : List Value} {ab433 : Bool} {col433 : Option Bool} {dd433 : Option Addr} {k0433 k1433 k2433 k3433 k5433 : Option Value}
    {oc433 : Value} {od433 : Option Addr} {doc433 pm433 : Value} {an433 : Option Addr} {cda433 cc433 : Addr} {ct433 : Value} {osl433 : Array (Option Value)} {ccl433 : Value} {cdd433 : Option Addr} {vs433 : Array Value} {ccs433 : Array (Option Value)} {tf433 : Tok} {cl433 : Value} {cld433 : Option Addr} {csl433 : Array (Option Value)}
    {C456 : Addr}
    {f458 : Addr} {nm459 qn459 : Str} {N459 : Addr} {bs459 bm459 : List Value} {sn459 : List Str} {sub459 : List Value} {ab459 : Bool} {col459 : Option Bool} {dd459 : Option Addr} {k0459 k1459 k2459 k3459 k5459 : Option Value}
    {oc459 : Value} {od459 : Option Addr} {doc459 pm459 : Value} {an459 : Option Addr} {cda459 cc459 : Addr} {ct459 : Value} {osl459 : Array (Option Value)} {ccl459 : Value} {cdd459 : Option Addr} {vs459 : Array Value} {ccs459 : Array (Option Value)} {tf459 : Tok} {cl459 : Value} {cld459 : Option Addr} {csl459 : Array (Option Value)}
    {C481 : Addr}
    {f483 : Addr} {nm484 qn484 : Str} {N484 : Addr} {bs484 bm484 : List Value} {sn484 : List Str} {sub484 : List Value} {ab484 : Bool} {col484 : Option Bool} {dd484 : Option Addr} {k0484 k1484 k2484 k3484 k5484 : Option Value}
    {oc484 : Value} {od484 : Option Addr} {doc484 pm484 : Value} {an484 : Option Addr} {cda484 cc484 : Addr} {ct484 : Value} {osl484 : Array (Option Value)} {ccl484 : Value} {cdd484 : Option Addr} {vs484 : Array Value} {ccs484 : Array (Option Value)} {tf484 : Tok} {cl484 : Value} {cld484 : Option Addr} {csl484 : Array (Option Value)}
    {C507 : Addr}
    {f509 : Addr} {nm510 qn510 : Str} {N510 : Addr} {bs510 bm510 : List Value} {sn510 : List Str} {sub510 : List Value} {ab510 : Bool} {col510 : Option Bool} {dd510 : Option Addr} {k0510 k1510 k2510 k3510 k5510 : Option Value}
    {oc510 : Value} {od510 : Option Addr} {doc510 pm510 : Value} {an510 : Option Addr} {cda510 cc510 : Addr} {ct510 : Value} {osl510 : Array (Option Value)} {ccl510 : Value} {cdd510 : Option Addr} {vs510 : Array Value} {ccs510 : Array (Option Value)} {tf510 : Tok} {cl510 : Value} {cld510 : Option Addr} {csl510 : Array (Option Value)}
    {C532 : Addr}
    {f534 : Addr} {nm535 qn535 : Str} {N535 : Addr} {bs535 bm535 : List Value} {sn535 : List Str} {sub535 : List Value} {ab535 : Bool} {col535 : Option Bool} {dd535 : Option Addr} {k0535 k1535 k2535 k3535 k5535 : Option Value}
    {oc535 : Value} {od535 : Option Addr} {doc535 pm535 : Value} {an535 : Option Addr} {cda535 cc535 : Addr} {ct535 : Value} {osl535 : Array (Option Value)} {ccl535 : Value} {cdd535 : Option Addr} {vs535 : Array Value} {ccs535 : Array (Option Value)} {tf535 : Tok} {cl535 : Value} {cld535 : Option Addr} {csl535 : Array (Option Value)}
    {C557 : Addr}
    {f559 : Addr} {nm560 qn560 : Str} {N560 : Addr} {bs560 bm560 : List Value} {sn560 : List Str} {sub560 : List Value} {ab560 : Bool} {col560 : Option Bool} {dd560 : Option Addr} {k0560 k1560 k2560 k3560 k5560 : Option Value}
    {oc560 : Value} {od560 : Option Addr} {doc560 pm560 : Value} {an560 : Option Addr} {cda560 cc560 : Addr} {ct560 : Value} {osl560 : Array (Option Value)} {ccl560 : Value} {cdd560 : Option Addr} {vs560 : Array Value} {ccs560 : Array (Option Value)} {tf560 : Tok} {cl560 : Value} {cld560 : Option Addr} {csl560 : Array (Option Value)}
    {C582 : Addr}
    {f584 : Addr} {nm585 qn585 : Str} {N585 : Addr} {bs585 bm585 : List Value} {sn585 : List Str} {sub585 : List Value} {ab585 : Bool} {col585 : Option Bool} {dd585 : Option Addr} {k0585 k1585 k2585 k3585 k5585 : Option Value}
    {oc585 : Value} {od585 : Option Addr} {doc585 pm585 : Value} {an585 : Option Addr} {cda585 cc585 : Addr} {ct585 : Value} {osl585 : Array (Option Value)} {ccl585 : Value} {cdd585 : Option Addr} {vs585 : Array Value} {ccs585 : Array (Option Value)} {tf585 : Tok} {cl585 : Value} {cld585 : Option Addr} {csl585 : Array (Option Value)}
    {C607 : Addr}
    {f609 : Addr} {nm610 qn610 : Str} {N610 : Addr} {bs610 bm610 : List Value} {sn610 : List Str} {sub610 : List Value} {ab610 : Bool} {col610 : Option Bool} {dd610 : Option Addr} {k0610 k1610 k2610 k3610 k5610 : Option Value}
    {oc610 : Value} {od610 : Option Addr} {doc610 pm610 : Value} {an610 : Option Addr} {cda610 cc610 : Addr} {ct610 : Value} {osl610 : Array (Option Value)} {ccl610 : Value} {cdd610 : Option Addr} {vs610 : Array Value} {ccs610 : Array (Option Value)} {tf610 : Tok} {cl610 : Value} {cld610 : Option Addr} {csl610 : Array (Option Value)}
    {f638 : Addr}
    {od640 an640 : Option Addr} {sl640 : Array (Option Value)} {oc640 kV640 dc640 pm640 cd640 ct640 : Value}
    {f641 : Addr}
    {od643 an643 : Option Addr} {sl643 : Array (Option Value)} {oc643 kV643 dc643 pm643 cd643 ct643 : Value}
    {f644 : Addr}
    {od646 an646 : Option Addr} {sl646 : Array (Option Value)} {oc646 kV646 dc646 pm646 cd646 ct646 : Value}
    {f647 : Addr}
    {od649 an649 : Option Addr} {sl649 : Array (Option Value)} {oc649 kV649 dc649 pm649 cd649 ct649 : Value}
    {f650 : Addr}
    {od652 an652 : Option Addr} {sl652 : Array (Option Value)} {oc652 kV652 dc652 pm652 cd652 ct652 : Value}
    {f653 : Addr}
    {od655 an655 : Option Addr} {sl655 : Array (Option Value)} {oc655 kV655 dc655 pm655 cd655 ct655 : Value}
    {f656 : Addr}
    {od658 an658 : Option Addr} {sl658 : Array (Option Value)} {oc658 kV658 dc658 pm658 cd658 ct658 : Value}
    {f659 : Addr}
    {od661 an661 : Option Addr} {sl661 : Array (Option Value)} {oc661 kV661 dc661 pm661 cd661 ct661 : Value}
    {od662 an662 : Option Addr} {sl662 : Array (Option Value)} {oc662 kV662 dc662 pm662 cd662 ct662 : Value}
    (a0 : PySem.W.nsIn K mainGlobals "law" = some (some (.ref f0)))
    (z1 : PySem.W.nsIn K cStatics "thirdparty.any" = some none)
    (a3 : PySem.W.nsIn K mainGlobals "InnercommitsError" = some (some (.ref C2)))
    (a5 : PySem.W.nsIn K mainGlobals "BadChange" = some (some (.ref C4)))
    (e8 : K.lookup C4 = some (excClassObj nm7 qn7 C4 N7 bs7 bm7 true sn7 sub7 ab7 col7 dd7 k07 k17 k27 k37 k57 "ValueError.__new__"))
    (e9 : PySem.HandSPX.refsVE bm7 = true)
    (e10 : PySem.W.findIn K (.ref C4) "__setattr__" = some (some (.builtin "object.__setattr__")))
    (e11 : PySem.W.findIn K (.ref C4) "__getattribute__" = some (some (.builtin "BaseException.__getattribute__")))
    (e12 : PySem.W.findIn K (.ref C4) "__getattr__" = some none)
    (e13 : PySem.W.findIn K (.ref C4) "__init__" = some (some (.ref f6)))
    (e14 : PySem.W.typeIn K (.ref f6) = some (.type "function"))
    (e15 : PySem.W.keepIn K (.ref C4) = true)
    (e16 : PySem.W.subIn K (.ref C4) (.type "BaseException") = some true)
    (e17 : PySem.W.subIn K (.ref C4) (.type "ValueError") = some true)
    (e18 : PySem.W.typeIn K (.ref C4) = some (.type "type"))
    (e19 : PySem.W.hasDictIn K C4 = true)
    (e20 : PySem.W.ks_superIn K C4 C4 "__init__" = some (some (.builtin "ValueError.__init__")))
    (e21 : PySem.W.mroIn K C4 (.ref C4) = some true)
    (e22 : PySem.W.exmOne K (.ref C4) (.ref C4) = some true)
    (e23 : K.lookup f6 = some ⟨oc7, od7, .func (PySem.W.ksFn "__init__" "BadChange.__init__" (defArgs s_BadChangeU_initU) (defBody s_BadChangeU_initU) (defScope s_BadChangeU_initU) .none .none doc7 pm7 an7 (.ref cda7) ct7 cc7), osl7⟩)
    (e24 : PySem.W.codeIn K (.ref cda7) "BadChange.__init__" = true)
    (e25 : K.lookup cda7 = some ⟨ccl7, cdd7, .fields vs7, ccs7⟩)
    (e26 : vs7[2]? = some (.str P.main.file tf7))
    (e27 : K.lookup cc7 = some ⟨cl7, cld7, .cell (some (.ref C4)), csl7⟩)
    (e28 : PySem.W.findIn K (.ref C4) "index" = some none)
    (a30 : PySem.W.nsIn K mainGlobals "BadLibrary" = some (some (.ref C29)))
    (e33 : K.lookup C29 = some (excClassObj nm32 qn32 C29 N32 bs32 bm32 true sn32 sub32 ab32 col32 dd32 k032 k132 k232 k332 k532 "ValueError.__new__"))
    (e34 : PySem.HandSPX.refsVE bm32 = true)
    (e35 : PySem.W.findIn K (.ref C29) "__setattr__" = some (some (.builtin "object.__setattr__")))
    (e36 : PySem.W.findIn K (.ref C29) "__getattribute__" = some (some (.builtin "BaseException.__getattribute__")))
    (e37 : PySem.W.findIn K (.ref C29) "__getattr__" = some none)
    (e38 : PySem.W.findIn K (.ref C29) "__init__" = some (some (.ref f31)))
    (e39 : PySem.W.typeIn K (.ref f31) = some (.type "function"))
    (e40 : PySem.W.keepIn K (.ref C29) = true)
    (e41 : PySem.W.subIn K (.ref C29) (.type "BaseException") = some true)
    (e42 : PySem.W.subIn K (.ref C29) (.type "ValueError") = some true)
    (e43 : PySem.W.typeIn K (.ref C29) = some (.type "type"))
    (e44 : PySem.W.hasDictIn K C29 = true)
    (e45 : PySem.W.ks_superIn K C29 C29 "__init__" = some (some (.builtin "ValueError.__init__")))
    (e46 : PySem.W.mroIn K C29 (.ref C29) = some true)
    (e47 : PySem.W.exmOne K (.ref C29) (.ref C29) = some true)
    (e48 : K.lookup f31 = some ⟨oc32, od32, .func (PySem.W.ksFn "__init__" "BadLibrary.__init__" (defArgs s_BadLibraryU_initU) (defBody s_BadLibraryU_initU) (defScope s_BadLibraryU_initU) .none .none doc32 pm32 an32 (.ref cda32) ct32 cc32), osl32⟩)
    (e49 : PySem.W.codeIn K (.ref cda32) "BadLibrary.__init__" = true)
    (e50 : K.lookup cda32 = some ⟨ccl32, cdd32, .fields vs32, ccs32⟩)
    (e51 : vs32[2]? = some (.str P.main.file tf32))
    (e52 : K.lookup cc32 = some ⟨cl32, cld32, .cell (some (.ref C29)), csl32⟩)
    (e53 : PySem.W.findIn K (.ref C29) "line" = some none)
    (a55 : PySem.W.nsIn K mainGlobals "BadMode" = some (some (.ref C54)))
    (e58 : K.lookup C54 = some (excClassObj nm57 qn57 C54 N57 bs57 bm57 true sn57 sub57 ab57 col57 dd57 k057 k157 k257 k357 k557 "ValueError.__new__"))
    (e59 : PySem.HandSPX.refsVE bm57 = true)
    (e60 : PySem.W.findIn K (.ref C54) "__setattr__" = some (some (.builtin "object.__setattr__")))
    (e61 : PySem.W.findIn K (.ref C54) "__getattribute__" = some (some (.builtin "BaseException.__getattribute__")))
    (e62 : PySem.W.findIn K (.ref C54) "__getattr__" = some none)
    (e63 : PySem.W.findIn K (.ref C54) "__init__" = some (some (.ref f56)))
    (e64 : PySem.W.typeIn K (.ref f56) = some (.type "function"))
    (e65 : PySem.W.keepIn K (.ref C54) = true)
    (e66 : PySem.W.subIn K (.ref C54) (.type "BaseException") = some true)
    (e67 : PySem.W.subIn K (.ref C54) (.type "ValueError") = some true)
    (e68 : PySem.W.typeIn K (.ref C54) = some (.type "type"))
    (e69 : PySem.W.hasDictIn K C54 = true)
    (e70 : PySem.W.ks_superIn K C54 C54 "__init__" = some (some (.builtin "ValueError.__init__")))
    (e71 : PySem.W.mroIn K C54 (.ref C54) = some true)
    (e72 : PySem.W.exmOne K (.ref C54) (.ref C54) = some true)
    (e73 : K.lookup f56 = some ⟨oc57, od57, .func (PySem.W.ksFn "__init__" "BadMode.__init__" (defArgs s_BadModeU_initU) (defBody s_BadModeU_initU) (defScope s_BadModeU_initU) .none .none doc57 pm57 an57 (.ref cda57) ct57 cc57), osl57⟩)
    (e74 : PySem.W.codeIn K (.ref cda57) "BadMode.__init__" = true)
    (e75 : K.lookup cda57 = some ⟨ccl57, cdd57, .fields vs57, ccs57⟩)
    (e76 : vs57[2]? = some (.str P.main.file tf57))
    (e77 : K.lookup cc57 = some ⟨cl57, cld57, .cell (some (.ref C54)), csl57⟩)
    (e78 : PySem.W.findIn K (.ref C54) "mode" = some none)
    (a80 : PySem.W.nsIn K mainGlobals "BadMove" = some (some (.ref C79)))
    (e83 : K.lookup C79 = some (excClassObj nm82 qn82 C79 N82 bs82 bm82 true sn82 sub82 ab82 col82 dd82 k082 k182 k282 k382 k582 "ValueError.__new__"))
    (e84 : PySem.HandSPX.refsVE bm82 = true)
    (e85 : PySem.W.findIn K (.ref C79) "__setattr__" = some (some (.builtin "object.__setattr__")))
    (e86 : PySem.W.findIn K (.ref C79) "__getattribute__" = some (some (.builtin "BaseException.__getattribute__")))
    (e87 : PySem.W.findIn K (.ref C79) "__getattr__" = some none)
    (e88 : PySem.W.findIn K (.ref C79) "__init__" = some (some (.ref f81)))
    (e89 : PySem.W.typeIn K (.ref f81) = some (.type "function"))
    (e90 : PySem.W.keepIn K (.ref C79) = true)
    (e91 : PySem.W.subIn K (.ref C79) (.type "BaseException") = some true)
    (e92 : PySem.W.subIn K (.ref C79) (.type "ValueError") = some true)
    (e93 : PySem.W.typeIn K (.ref C79) = some (.type "type"))
    (e94 : PySem.W.hasDictIn K C79 = true)
    (e95 : PySem.W.ks_superIn K C79 C79 "__init__" = some (some (.builtin "ValueError.__init__")))
    (e96 : PySem.W.mroIn K C79 (.ref C79) = some true)
    (e97 : PySem.W.exmOne K (.ref C79) (.ref C79) = some true)
    (e98 : K.lookup f81 = some ⟨oc82, od82, .func (PySem.W.ksFn "__init__" "BadMove.__init__" (defArgs s_BadMoveU_initU) (defBody s_BadMoveU_initU) (defScope s_BadMoveU_initU) .none .none doc82 pm82 an82 (.ref cda82) ct82 cc82), osl82⟩)
    (e99 : PySem.W.codeIn K (.ref cda82) "BadMove.__init__" = true)
    (e100 : K.lookup cda82 = some ⟨ccl82, cdd82, .fields vs82, ccs82⟩)
    (e101 : vs82[2]? = some (.str P.main.file tf82))
    (e102 : K.lookup cc82 = some ⟨cl82, cld82, .cell (some (.ref C79)), csl82⟩)
    (e103 : PySem.W.findIn K (.ref C79) "thing" = some none)
    (a105 : PySem.W.nsIn K mainGlobals "BadRecords" = some (some (.ref C104)))
    (e108 : K.lookup C104 = some (excClassObj nm107 qn107 C104 N107 bs107 bm107 true sn107 sub107 ab107 col107 dd107 k0107 k1107 k2107 k3107 k5107 "ValueError.__new__"))
    (e109 : PySem.HandSPX.refsVE bm107 = true)
    (e110 : PySem.W.findIn K (.ref C104) "__setattr__" = some (some (.builtin "object.__setattr__")))
    (e111 : PySem.W.findIn K (.ref C104) "__getattribute__" = some (some (.builtin "BaseException.__getattribute__")))
    (e112 : PySem.W.findIn K (.ref C104) "__getattr__" = some none)
    (e113 : PySem.W.findIn K (.ref C104) "__init__" = some (some (.ref f106)))
    (e114 : PySem.W.typeIn K (.ref f106) = some (.type "function"))
    (e115 : PySem.W.keepIn K (.ref C104) = true)
    (e116 : PySem.W.subIn K (.ref C104) (.type "BaseException") = some true)
    (e117 : PySem.W.subIn K (.ref C104) (.type "ValueError") = some true)
    (e118 : PySem.W.typeIn K (.ref C104) = some (.type "type"))
    (e119 : PySem.W.hasDictIn K C104 = true)
    (e120 : PySem.W.ks_superIn K C104 C104 "__init__" = some (some (.builtin "ValueError.__init__")))
    (e121 : PySem.W.mroIn K C104 (.ref C104) = some true)
    (e122 : PySem.W.exmOne K (.ref C104) (.ref C104) = some true)
    (e123 : K.lookup f106 = some ⟨oc107, od107, .func (PySem.W.ksFn "__init__" "BadRecords.__init__" (defArgs s_BadRecordsU_initU) (defBody s_BadRecordsU_initU) (defScope s_BadRecordsU_initU) .none .none doc107 pm107 an107 (.ref cda107) ct107 cc107), osl107⟩)
    (e124 : PySem.W.codeIn K (.ref cda107) "BadRecords.__init__" = true)
    (e125 : K.lookup cda107 = some ⟨ccl107, cdd107, .fields vs107, ccs107⟩)
    (e126 : vs107[2]? = some (.str P.main.file tf107))
    (e127 : K.lookup cc107 = some ⟨cl107, cld107, .cell (some (.ref C104)), csl107⟩)
    (e128 : PySem.W.findIn K (.ref C104) "record" = some none)
    (a130 : PySem.W.nsIn K mainGlobals "BadWord" = some (some (.ref C129)))
    (e133 : K.lookup C129 = some (excClassObj nm132 qn132 C129 N132 bs132 bm132 true sn132 sub132 ab132 col132 dd132 k0132 k1132 k2132 k3132 k5132 "ValueError.__new__"))
    (e134 : PySem.HandSPX.refsVE bm132 = true)
    (e135 : PySem.W.findIn K (.ref C129) "__setattr__" = some (some (.builtin "object.__setattr__")))
    (e136 : PySem.W.findIn K (.ref C129) "__getattribute__" = some (some (.builtin "BaseException.__getattribute__")))
    (e137 : PySem.W.findIn K (.ref C129) "__getattr__" = some none)
    (e138 : PySem.W.findIn K (.ref C129) "__init__" = some (some (.ref f131)))
    (e139 : PySem.W.typeIn K (.ref f131) = some (.type "function"))
    (e140 : PySem.W.keepIn K (.ref C129) = true)
    (e141 : PySem.W.subIn K (.ref C129) (.type "BaseException") = some true)
    (e142 : PySem.W.subIn K (.ref C129) (.type "ValueError") = some true)
    (e143 : PySem.W.typeIn K (.ref C129) = some (.type "type"))
    (e144 : PySem.W.hasDictIn K C129 = true)
    (e145 : PySem.W.ks_superIn K C129 C129 "__init__" = some (some (.builtin "ValueError.__init__")))
    (e146 : PySem.W.mroIn K C129 (.ref C129) = some true)
    (e147 : PySem.W.exmOne K (.ref C129) (.ref C129) = some true)
    (e148 : K.lookup f131 = some ⟨oc132, od132, .func (PySem.W.ksFn "__init__" "BadWord.__init__" (defArgs s_BadWordU_initU) (defBody s_BadWordU_initU) (defScope s_BadWordU_initU) .none .none doc132 pm132 an132 (.ref cda132) ct132 cc132), osl132⟩)
    (e149 : PySem.W.codeIn K (.ref cda132) "BadWord.__init__" = true)
    (e150 : K.lookup cda132 = some ⟨ccl132, cdd132, .fields vs132, ccs132⟩)
    (e151 : vs132[2]? = some (.str P.main.file tf132))
    (e152 : K.lookup cc132 = some ⟨cl132, cld132, .cell (some (.ref C129)), csl132⟩)
    (e153 : PySem.W.findIn K (.ref C129) "word" = some none)
    (a155 : PySem.W.nsIn K mainGlobals "Clash" = some (some (.ref C154)))
    (e158 : K.lookup C154 = some (excClassObj nm157 qn157 C154 N157 bs157 bm157 true sn157 sub157 ab157 col157 dd157 k0157 k1157 k2157 k3157 k5157 "ValueError.__new__"))
    (e159 : PySem.HandSPX.refsVE bm157 = true)
    (e160 : PySem.W.findIn K (.ref C154) "__setattr__" = some (some (.builtin "object.__setattr__")))
    (e161 : PySem.W.findIn K (.ref C154) "__getattribute__" = some (some (.builtin "BaseException.__getattribute__")))
    (e162 : PySem.W.findIn K (.ref C154) "__getattr__" = some none)
    (e163 : PySem.W.findIn K (.ref C154) "__init__" = some (some (.ref f156)))
    (e164 : PySem.W.typeIn K (.ref f156) = some (.type "function"))
    (e165 : PySem.W.keepIn K (.ref C154) = true)
    (e166 : PySem.W.subIn K (.ref C154) (.type "BaseException") = some true)
    (e167 : PySem.W.subIn K (.ref C154) (.type "ValueError") = some true)
    (e168 : PySem.W.typeIn K (.ref C154) = some (.type "type"))
    (e169 : PySem.W.hasDictIn K C154 = true)
    (e170 : PySem.W.ks_superIn K C154 C154 "__init__" = some (some (.builtin "ValueError.__init__")))
    (e171 : PySem.W.mroIn K C154 (.ref C154) = some true)
    (e172 : PySem.W.exmOne K (.ref C154) (.ref C154) = some true)
    (e173 : K.lookup f156 = some ⟨oc157, od157, .func (PySem.W.ksFn "__init__" "Clash.__init__" (defArgs s_ClashU_initU) (defBody s_ClashU_initU) (defScope s_ClashU_initU) .none .none doc157 pm157 an157 (.ref cda157) ct157 cc157), osl157⟩)
    (e174 : PySem.W.codeIn K (.ref cda157) "Clash.__init__" = true)
    (e175 : K.lookup cda157 = some ⟨ccl157, cdd157, .fields vs157, ccs157⟩)
    (e176 : vs157[2]? = some (.str P.main.file tf157))
    (e177 : K.lookup cc157 = some ⟨cl157, cld157, .cell (some (.ref C154)), csl157⟩)
    (e178 : PySem.W.findIn K (.ref C154) "name" = some none)
    (a180 : PySem.W.nsIn K mainGlobals "Doomed" = some (some (.ref C179)))
    (e183 : K.lookup C179 = some (excClassObj nm182 qn182 C179 N182 bs182 bm182 true sn182 sub182 ab182 col182 dd182 k0182 k1182 k2182 k3182 k5182 "ValueError.__new__"))
    (e184 : PySem.HandSPX.refsVE bm182 = true)
    (e185 : PySem.W.findIn K (.ref C179) "__setattr__" = some (some (.builtin "object.__setattr__")))
    (e186 : PySem.W.findIn K (.ref C179) "__getattribute__" = some (some (.builtin "BaseException.__getattribute__")))
    (e187 : PySem.W.findIn K (.ref C179) "__getattr__" = some none)
    (e188 : PySem.W.findIn K (.ref C179) "__init__" = some (some (.ref f181)))
    (e189 : PySem.W.typeIn K (.ref f181) = some (.type "function"))
    (e190 : PySem.W.keepIn K (.ref C179) = true)
    (e191 : PySem.W.subIn K (.ref C179) (.type "BaseException") = some true)
    (e192 : PySem.W.subIn K (.ref C179) (.type "ValueError") = some true)
    (e193 : PySem.W.typeIn K (.ref C179) = some (.type "type"))
    (e194 : PySem.W.hasDictIn K C179 = true)
    (e195 : PySem.W.ks_superIn K C179 C179 "__init__" = some (some (.builtin "ValueError.__init__")))
    (e196 : PySem.W.mroIn K C179 (.ref C179) = some true)
    (e197 : PySem.W.exmOne K (.ref C179) (.ref C179) = some true)
    (e198 : K.lookup f181 = some ⟨oc182, od182, .func (PySem.W.ksFn "__init__" "Doomed.__init__" (defArgs s_DoomedU_initU) (defBody s_DoomedU_initU) (defScope s_DoomedU_initU) .none .none doc182 pm182 an182 (.ref cda182) ct182 cc182), osl182⟩)
    (e199 : PySem.W.codeIn K (.ref cda182) "Doomed.__init__" = true)
    (e200 : K.lookup cda182 = some ⟨ccl182, cdd182, .fields vs182, ccs182⟩)
    (e201 : vs182[2]? = some (.str P.main.file tf182))
    (e202 : K.lookup cc182 = some ⟨cl182, cld182, .cell (some (.ref C179)), csl182⟩)
    (e203 : PySem.W.findIn K (.ref C179) "word" = some none)
    (e204 : PySem.W.findIn K (.ref C179) "first" = some none)
    (a206 : PySem.W.nsIn K mainGlobals "Endless" = some (some (.ref C205)))
    (e209 : K.lookup C205 = some (excClassObj nm208 qn208 C205 N208 bs208 bm208 true sn208 sub208 ab208 col208 dd208 k0208 k1208 k2208 k3208 k5208 "ValueError.__new__"))
    (e210 : PySem.HandSPX.refsVE bm208 = true)
    (e211 : PySem.W.findIn K (.ref C205) "__setattr__" = some (some (.builtin "object.__setattr__")))
    (e212 : PySem.W.findIn K (.ref C205) "__getattribute__" = some (some (.builtin "BaseException.__getattribute__")))
    (e213 : PySem.W.findIn K (.ref C205) "__getattr__" = some none)
    (e214 : PySem.W.findIn K (.ref C205) "__init__" = some (some (.ref f207)))
    (e215 : PySem.W.typeIn K (.ref f207) = some (.type "function"))
    (e216 : PySem.W.keepIn K (.ref C205) = true)
    (e217 : PySem.W.subIn K (.ref C205) (.type "BaseException") = some true)
    (e218 : PySem.W.subIn K (.ref C205) (.type "ValueError") = some true)
    (e219 : PySem.W.typeIn K (.ref C205) = some (.type "type"))
    (e220 : PySem.W.hasDictIn K C205 = true)
    (e221 : PySem.W.ks_superIn K C205 C205 "__init__" = some (some (.builtin "ValueError.__init__")))
    (e222 : PySem.W.mroIn K C205 (.ref C205) = some true)
    (e223 : PySem.W.exmOne K (.ref C205) (.ref C205) = some true)
    (e224 : K.lookup f207 = some ⟨oc208, od208, .func (PySem.W.ksFn "__init__" "Endless.__init__" (defArgs s_EndlessU_initU) (defBody s_EndlessU_initU) (defScope s_EndlessU_initU) .none .none doc208 pm208 an208 (.ref cda208) ct208 cc208), osl208⟩)
    (e225 : PySem.W.codeIn K (.ref cda208) "Endless.__init__" = true)
    (e226 : K.lookup cda208 = some ⟨ccl208, cdd208, .fields vs208, ccs208⟩)
    (e227 : vs208[2]? = some (.str P.main.file tf208))
    (e228 : K.lookup cc208 = some ⟨cl208, cld208, .cell (some (.ref C205)), csl208⟩)
    (e229 : PySem.W.findIn K (.ref C205) "name" = some none)
    (a231 : PySem.W.nsIn K mainGlobals "Failed" = some (some (.ref C230)))
    (e234 : K.lookup C230 = some (excClassObj nm233 qn233 C230 N233 bs233 bm233 true sn233 sub233 ab233 col233 dd233 k0233 k1233 k2233 k3233 k5233 "ValueError.__new__"))
    (e235 : PySem.HandSPX.refsVE bm233 = true)
    (e236 : PySem.W.findIn K (.ref C230) "__setattr__" = some (some (.builtin "object.__setattr__")))
    (e237 : PySem.W.findIn K (.ref C230) "__getattribute__" = some (some (.builtin "BaseException.__getattribute__")))
    (e238 : PySem.W.findIn K (.ref C230) "__getattr__" = some none)
    (e239 : PySem.W.findIn K (.ref C230) "__init__" = some (some (.ref f232)))
    (e240 : PySem.W.typeIn K (.ref f232) = some (.type "function"))
    (e241 : PySem.W.keepIn K (.ref C230) = true)
    (e242 : PySem.W.subIn K (.ref C230) (.type "BaseException") = some true)
    (e243 : PySem.W.subIn K (.ref C230) (.type "ValueError") = some true)
    (e244 : PySem.W.typeIn K (.ref C230) = some (.type "type"))
    (e245 : PySem.W.hasDictIn K C230 = true)
    (e246 : PySem.W.ks_superIn K C230 C230 "__init__" = some (some (.builtin "ValueError.__init__")))
    (e247 : PySem.W.mroIn K C230 (.ref C230) = some true)
    (e248 : PySem.W.exmOne K (.ref C230) (.ref C230) = some true)
    (e249 : K.lookup f232 = some ⟨oc233, od233, .func (PySem.W.ksFn "__init__" "Failed.__init__" (defArgs s_FailedU_initU) (defBody s_FailedU_initU) (defScope s_FailedU_initU) .none .none doc233 pm233 an233 (.ref cda233) ct233 cc233), osl233⟩)
    (e250 : PySem.W.codeIn K (.ref cda233) "Failed.__init__" = true)
    (e251 : K.lookup cda233 = some ⟨ccl233, cdd233, .fields vs233, ccs233⟩)
    (e252 : vs233[2]? = some (.str P.main.file tf233))
    (e253 : K.lookup cc233 = some ⟨cl233, cld233, .cell (some (.ref C230)), csl233⟩)
    (e254 : PySem.W.findIn K (.ref C230) "word" = some none)
    (a256 : PySem.W.nsIn K mainGlobals "Missing" = some (some (.ref C255)))
    (e259 : K.lookup C255 = some (excClassObj nm258 qn258 C255 N258 bs258 bm258 true sn258 sub258 ab258 col258 dd258 k0258 k1258 k2258 k3258 k5258 "ValueError.__new__"))
    (e260 : PySem.HandSPX.refsVE bm258 = true)
    (e261 : PySem.W.findIn K (.ref C255) "__setattr__" = some (some (.builtin "object.__setattr__")))
    (e262 : PySem.W.findIn K (.ref C255) "__getattribute__" = some (some (.builtin "BaseException.__getattribute__")))
    (e263 : PySem.W.findIn K (.ref C255) "__getattr__" = some none)
    (e264 : PySem.W.findIn K (.ref C255) "__init__" = some (some (.ref f257)))
    (e265 : PySem.W.typeIn K (.ref f257) = some (.type "function"))
    (e266 : PySem.W.keepIn K (.ref C255) = true)
    (e267 : PySem.W.subIn K (.ref C255) (.type "BaseException") = some true)
    (e268 : PySem.W.subIn K (.ref C255) (.type "ValueError") = some true)
    (e269 : PySem.W.typeIn K (.ref C255) = some (.type "type"))
    (e270 : PySem.W.hasDictIn K C255 = true)
    (e271 : PySem.W.ks_superIn K C255 C255 "__init__" = some (some (.builtin "ValueError.__init__")))
    (e272 : PySem.W.mroIn K C255 (.ref C255) = some true)
    (e273 : PySem.W.exmOne K (.ref C255) (.ref C255) = some true)
    (e274 : K.lookup f257 = some ⟨oc258, od258, .func (PySem.W.ksFn "__init__" "Missing.__init__" (defArgs s_MissingU_initU) (defBody s_MissingU_initU) (defScope s_MissingU_initU) .none .none doc258 pm258 an258 (.ref cda258) ct258 cc258), osl258⟩)
    (e275 : PySem.W.codeIn K (.ref cda258) "Missing.__init__" = true)
    (e276 : K.lookup cda258 = some ⟨ccl258, cdd258, .fields vs258, ccs258⟩)
    (e277 : vs258[2]? = some (.str P.main.file tf258))
    (e278 : K.lookup cc258 = some ⟨cl258, cld258, .cell (some (.ref C255)), csl258⟩)
    (e279 : PySem.W.findIn K (.ref C255) "word" = some none)
    (e280 : PySem.W.findIn K (.ref C255) "mode" = some none)
    (a282 : PySem.W.nsIn K mainGlobals "NoBlock" = some (some (.ref C281)))
    (e285 : K.lookup C281 = some (excClassObj nm284 qn284 C281 N284 bs284 bm284 true sn284 sub284 ab284 col284 dd284 k0284 k1284 k2284 k3284 k5284 "ValueError.__new__"))
    (e286 : PySem.HandSPX.refsVE bm284 = true)
    (e287 : PySem.W.findIn K (.ref C281) "__setattr__" = some (some (.builtin "object.__setattr__")))
    (e288 : PySem.W.findIn K (.ref C281) "__getattribute__" = some (some (.builtin "BaseException.__getattribute__")))
    (e289 : PySem.W.findIn K (.ref C281) "__getattr__" = some none)
    (e290 : PySem.W.findIn K (.ref C281) "__init__" = some (some (.ref f283)))
    (e291 : PySem.W.typeIn K (.ref f283) = some (.type "function"))
    (e292 : PySem.W.keepIn K (.ref C281) = true)
    (e293 : PySem.W.subIn K (.ref C281) (.type "BaseException") = some true)
    (e294 : PySem.W.subIn K (.ref C281) (.type "ValueError") = some true)
    (e295 : PySem.W.typeIn K (.ref C281) = some (.type "type"))
    (e296 : PySem.W.hasDictIn K C281 = true)
    (e297 : PySem.W.ks_superIn K C281 C281 "__init__" = some (some (.builtin "ValueError.__init__")))
    (e298 : PySem.W.mroIn K C281 (.ref C281) = some true)
    (e299 : PySem.W.exmOne K (.ref C281) (.ref C281) = some true)
    (e300 : K.lookup f283 = some ⟨oc284, od284, .func (PySem.W.ksFn "__init__" "NoBlock.__init__" (defArgs s_NoBlockU_initU) (defBody s_NoBlockU_initU) (defScope s_NoBlockU_initU) .none .none doc284 pm284 an284 (.ref cda284) ct284 cc284), osl284⟩)
    (e301 : PySem.W.codeIn K (.ref cda284) "NoBlock.__init__" = true)
    (e302 : K.lookup cda284 = some ⟨ccl284, cdd284, .fields vs284, ccs284⟩)
    (e303 : vs284[2]? = some (.str P.main.file tf284))
    (e304 : K.lookup cc284 = some ⟨cl284, cld284, .cell (some (.ref C281)), csl284⟩)
    (a306 : PySem.W.nsIn K mainGlobals "NoCall" = some (some (.ref C305)))
    (e309 : K.lookup C305 = some (excClassObj nm308 qn308 C305 N308 bs308 bm308 true sn308 sub308 ab308 col308 dd308 k0308 k1308 k2308 k3308 k5308 "ValueError.__new__"))
    (e310 : PySem.HandSPX.refsVE bm308 = true)
    (e311 : PySem.W.findIn K (.ref C305) "__setattr__" = some (some (.builtin "object.__setattr__")))
    (e312 : PySem.W.findIn K (.ref C305) "__getattribute__" = some (some (.builtin "BaseException.__getattribute__")))
    (e313 : PySem.W.findIn K (.ref C305) "__getattr__" = some none)
    (e314 : PySem.W.findIn K (.ref C305) "__init__" = some (some (.ref f307)))
    (e315 : PySem.W.typeIn K (.ref f307) = some (.type "function"))
    (e316 : PySem.W.keepIn K (.ref C305) = true)
    (e317 : PySem.W.subIn K (.ref C305) (.type "BaseException") = some true)
    (e318 : PySem.W.subIn K (.ref C305) (.type "ValueError") = some true)
    (e319 : PySem.W.typeIn K (.ref C305) = some (.type "type"))
    (e320 : PySem.W.hasDictIn K C305 = true)
    (e321 : PySem.W.ks_superIn K C305 C305 "__init__" = some (some (.builtin "ValueError.__init__")))
    (e322 : PySem.W.mroIn K C305 (.ref C305) = some true)
    (e323 : PySem.W.exmOne K (.ref C305) (.ref C305) = some true)
    (e324 : K.lookup f307 = some ⟨oc308, od308, .func (PySem.W.ksFn "__init__" "NoCall.__init__" (defArgs s_NoCallU_initU) (defBody s_NoCallU_initU) (defScope s_NoCallU_initU) .none .none doc308 pm308 an308 (.ref cda308) ct308 cc308), osl308⟩)
    (e325 : PySem.W.codeIn K (.ref cda308) "NoCall.__init__" = true)
    (e326 : K.lookup cda308 = some ⟨ccl308, cdd308, .fields vs308, ccs308⟩)
    (e327 : vs308[2]? = some (.str P.main.file tf308))
    (e328 : K.lookup cc308 = some ⟨cl308, cld308, .cell (some (.ref C305)), csl308⟩)
    (e329 : PySem.W.findIn K (.ref C305) "number" = some none)
    (a331 : PySem.W.nsIn K mainGlobals "NoFace" = some (some (.ref C330)))
    (e334 : K.lookup C330 = some (excClassObj nm333 qn333 C330 N333 bs333 bm333 true sn333 sub333 ab333 col333 dd333 k0333 k1333 k2333 k3333 k5333 "ValueError.__new__"))
    (e335 : PySem.HandSPX.refsVE bm333 = true)
    (e336 : PySem.W.findIn K (.ref C330) "__setattr__" = some (some (.builtin "object.__setattr__")))
    (e337 : PySem.W.findIn K (.ref C330) "__getattribute__" = some (some (.builtin "BaseException.__getattribute__")))
    (e338 : PySem.W.findIn K (.ref C330) "__getattr__" = some none)
    (e339 : PySem.W.findIn K (.ref C330) "__init__" = some (some (.ref f332)))
    (e340 : PySem.W.typeIn K (.ref f332) = some (.type "function"))
    (e341 : PySem.W.keepIn K (.ref C330) = true)
    (e342 : PySem.W.subIn K (.ref C330) (.type "BaseException") = some true)
    (e343 : PySem.W.subIn K (.ref C330) (.type "ValueError") = some true)
    (e344 : PySem.W.typeIn K (.ref C330) = some (.type "type"))
    (e345 : PySem.W.hasDictIn K C330 = true)
    (e346 : PySem.W.ks_superIn K C330 C330 "__init__" = some (some (.builtin "ValueError.__init__")))
    (e347 : PySem.W.mroIn K C330 (.ref C330) = some true)
    (e348 : PySem.W.exmOne K (.ref C330) (.ref C330) = some true)
    (e349 : K.lookup f332 = some ⟨oc333, od333, .func (PySem.W.ksFn "__init__" "NoFace.__init__" (defArgs s_NoFaceU_initU) (defBody s_NoFaceU_initU) (defScope s_NoFaceU_initU) .none .none doc333 pm333 an333 (.ref cda333) ct333 cc333), osl333⟩)
    (e350 : PySem.W.codeIn K (.ref cda333) "NoFace.__init__" = true)
    (e351 : K.lookup cda333 = some ⟨ccl333, cdd333, .fields vs333, ccs333⟩)
    (e352 : vs333[2]? = some (.str P.main.file tf333))
    (e353 : K.lookup cc333 = some ⟨cl333, cld333, .cell (some (.ref C330)), csl333⟩)
    (e354 : PySem.W.findIn K (.ref C330) "face" = some none)
    (a356 : PySem.W.nsIn K mainGlobals "NoFate" = some (some (.ref C355)))
    (e359 : K.lookup C355 = some (excClassObj nm358 qn358 C355 N358 bs358 bm358 true sn358 sub358 ab358 col358 dd358 k0358 k1358 k2358 k3358 k5358 "ValueError.__new__"))
    (e360 : PySem.HandSPX.refsVE bm358 = true)
    (e361 : PySem.W.findIn K (.ref C355) "__setattr__" = some (some (.builtin "object.__setattr__")))
    (e362 : PySem.W.findIn K (.ref C355) "__getattribute__" = some (some (.builtin "BaseException.__getattribute__")))
    (e363 : PySem.W.findIn K (.ref C355) "__getattr__" = some none)
    (e364 : PySem.W.findIn K (.ref C355) "__init__" = some (some (.ref f357)))
    (e365 : PySem.W.typeIn K (.ref f357) = some (.type "function"))
    (e366 : PySem.W.keepIn K (.ref C355) = true)
    (e367 : PySem.W.subIn K (.ref C355) (.type "BaseException") = some true)
    (e368 : PySem.W.subIn K (.ref C355) (.type "ValueError") = some true)
    (e369 : PySem.W.typeIn K (.ref C355) = some (.type "type"))
    (e370 : PySem.W.hasDictIn K C355 = true)
    (e371 : PySem.W.ks_superIn K C355 C355 "__init__" = some (some (.builtin "ValueError.__init__")))
    (e372 : PySem.W.mroIn K C355 (.ref C355) = some true)
    (e373 : PySem.W.exmOne K (.ref C355) (.ref C355) = some true)
    (e374 : K.lookup f357 = some ⟨oc358, od358, .func (PySem.W.ksFn "__init__" "NoFate.__init__" (defArgs s_NoFateU_initU) (defBody s_NoFateU_initU) (defScope s_NoFateU_initU) .none .none doc358 pm358 an358 (.ref cda358) ct358 cc358), osl358⟩)
    (e375 : PySem.W.codeIn K (.ref cda358) "NoFate.__init__" = true)
    (e376 : K.lookup cda358 = some ⟨ccl358, cdd358, .fields vs358, ccs358⟩)
    (e377 : vs358[2]? = some (.str P.main.file tf358))
    (e378 : K.lookup cc358 = some ⟨cl358, cld358, .cell (some (.ref C355)), csl358⟩)
    (e379 : PySem.W.findIn K (.ref C355) "kept" = some none)
    (a381 : PySem.W.nsIn K mainGlobals "NoFunction" = some (some (.ref C380)))
    (e384 : K.lookup C380 = some (excClassObj nm383 qn383 C380 N383 bs383 bm383 true sn383 sub383 ab383 col383 dd383 k0383 k1383 k2383 k3383 k5383 "ValueError.__new__"))
    (e385 : PySem.HandSPX.refsVE bm383 = true)
    (e386 : PySem.W.findIn K (.ref C380) "__setattr__" = some (some (.builtin "object.__setattr__")))
    (e387 : PySem.W.findIn K (.ref C380) "__getattribute__" = some (some (.builtin "BaseException.__getattribute__")))
    (e388 : PySem.W.findIn K (.ref C380) "__getattr__" = some none)
    (e389 : PySem.W.findIn K (.ref C380) "__init__" = some (some (.ref f382)))
    (e390 : PySem.W.typeIn K (.ref f382) = some (.type "function"))
    (e391 : PySem.W.keepIn K (.ref C380) = true)
    (e392 : PySem.W.subIn K (.ref C380) (.type "BaseException") = some true)
    (e393 : PySem.W.subIn K (.ref C380) (.type "ValueError") = some true)
    (e394 : PySem.W.typeIn K (.ref C380) = some (.type "type"))
    (e395 : PySem.W.hasDictIn K C380 = true)
    (e396 : PySem.W.ks_superIn K C380 C380 "__init__" = some (some (.builtin "ValueError.__init__")))
    (e397 : PySem.W.mroIn K C380 (.ref C380) = some true)
    (e398 : PySem.W.exmOne K (.ref C380) (.ref C380) = some true)
    (e399 : K.lookup f382 = some ⟨oc383, od383, .func (PySem.W.ksFn "__init__" "NoFunction.__init__" (defArgs s_NoFunctionU_initU) (defBody s_NoFunctionU_initU) (defScope s_NoFunctionU_initU) .none .none doc383 pm383 an383 (.ref cda383) ct383 cc383), osl383⟩)
    (e400 : PySem.W.codeIn K (.ref cda383) "NoFunction.__init__" = true)
    (e401 : K.lookup cda383 = some ⟨ccl383, cdd383, .fields vs383, ccs383⟩)
    (e402 : vs383[2]? = some (.str P.main.file tf383))
    (e403 : K.lookup cc383 = some ⟨cl383, cld383, .cell (some (.ref C380)), csl383⟩)
    (e404 : PySem.W.findIn K (.ref C380) "name" = some none)
    (a406 : PySem.W.nsIn K mainGlobals "NoRecord" = some (some (.ref C405)))
    (e409 : K.lookup C405 = some (excClassObj nm408 qn408 C405 N408 bs408 bm408 true sn408 sub408 ab408 col408 dd408 k0408 k1408 k2408 k3408 k5408 "ValueError.__new__"))
    (e410 : PySem.HandSPX.refsVE bm408 = true)
    (e411 : PySem.W.findIn K (.ref C405) "__setattr__" = some (some (.builtin "object.__setattr__")))
    (e412 : PySem.W.findIn K (.ref C405) "__getattribute__" = some (some (.builtin "BaseException.__getattribute__")))
    (e413 : PySem.W.findIn K (.ref C405) "__getattr__" = some none)
    (e414 : PySem.W.findIn K (.ref C405) "__init__" = some (some (.ref f407)))
    (e415 : PySem.W.typeIn K (.ref f407) = some (.type "function"))
    (e416 : PySem.W.keepIn K (.ref C405) = true)
    (e417 : PySem.W.subIn K (.ref C405) (.type "BaseException") = some true)
    (e418 : PySem.W.subIn K (.ref C405) (.type "ValueError") = some true)
    (e419 : PySem.W.typeIn K (.ref C405) = some (.type "type"))
    (e420 : PySem.W.hasDictIn K C405 = true)
    (e421 : PySem.W.ks_superIn K C405 C405 "__init__" = some (some (.builtin "ValueError.__init__")))
    (e422 : PySem.W.mroIn K C405 (.ref C405) = some true)
    (e423 : PySem.W.exmOne K (.ref C405) (.ref C405) = some true)
    (e424 : K.lookup f407 = some ⟨oc408, od408, .func (PySem.W.ksFn "__init__" "NoRecord.__init__" (defArgs s_NoRecordU_initU) (defBody s_NoRecordU_initU) (defScope s_NoRecordU_initU) .none .none doc408 pm408 an408 (.ref cda408) ct408 cc408), osl408⟩)
    (e425 : PySem.W.codeIn K (.ref cda408) "NoRecord.__init__" = true)
    (e426 : K.lookup cda408 = some ⟨ccl408, cdd408, .fields vs408, ccs408⟩)
    (e427 : vs408[2]? = some (.str P.main.file tf408))
    (e428 : K.lookup cc408 = some ⟨cl408, cld408, .cell (some (.ref C405)), csl408⟩)
    (e429 : PySem.W.findIn K (.ref C405) "record" = some none)
    (a431 : PySem.W.nsIn K mainGlobals "NoRow" = some (some (.ref C430)))
    (e434 : K.lookup C430 = some (excClassObj nm433 qn433 C430 N433 bs433 bm433 true sn433 sub433 ab433 col433 dd433 k0433 k1433 k2433 k3433 k5433 "ValueError.__new__"))
    (e435 : PySem.HandSPX.refsVE bm433 = true)
    (e436 : PySem.W.findIn K (.ref C430) "__setattr__" = some (some (.builtin "object.__setattr__")))
    (e437 : PySem.W.findIn K (.ref C430) "__getattribute__" = some (some (.builtin "BaseException.__getattribute__")))
    (e438 : PySem.W.findIn K (.ref C430) "__getattr__" = some none)
    (e439 : PySem.W.findIn K (.ref C430) "__init__" = some (some (.ref f432)))
    (e440 : PySem.W.typeIn K (.ref f432) = some (.type "function"))
    (e441 : PySem.W.keepIn K (.ref C430) = true)
    (e442 : PySem.W.subIn K (.ref C430) (.type "BaseException") = some true)
    (e443 : PySem.W.subIn K (.ref C430) (.type "ValueError") = some true)
    (e444 : PySem.W.typeIn K (.ref C430) = some (.type "type"))
    (e445 : PySem.W.hasDictIn K C430 = true)
    (e446 : PySem.W.ks_superIn K C430 C430 "__init__" = some (some (.builtin "ValueError.__init__")))
    (e447 : PySem.W.mroIn K C430 (.ref C430) = some true)
    (e448 : PySem.W.exmOne K (.ref C430) (.ref C430) = some true)
    (e449 : K.lookup f432 = some ⟨oc433, od433, .func (PySem.W.ksFn "__init__" "NoRow.__init__" (defArgs s_NoRowU_initU) (defBody s_NoRowU_initU) (defScope s_NoRowU_initU) .none .none doc433 pm433 an433 (.ref cda433) ct433 cc433), osl433⟩)
    (e450 : PySem.W.codeIn K (.ref cda433) "NoRow.__init__" = true)
    (e451 : K.lookup cda433 = some ⟨ccl433, cdd433, .fields vs433, ccs433⟩)
    (e452 : vs433[2]? = some (.str P.main.file tf433))
    (e453 : K.lookup cc433 = some ⟨cl433, cld433, .cell (some (.ref C430)), csl433⟩)
    (e454 : PySem.W.findIn K (.ref C430) "name" = some none)
    (e455 : PySem.W.findIn K (.ref C430) "case" = some none)
    (a457 : PySem.W.nsIn K mainGlobals "NotNow" = some (some (.ref C456)))
    (e460 : K.lookup C456 = some (excClassObj nm459 qn459 C456 N459 bs459 bm459 true sn459 sub459 ab459 col459 dd459 k0459 k1459 k2459 k3459 k5459 "ValueError.__new__"))
    (e461 : PySem.HandSPX.refsVE bm459 = true)
    (e462 : PySem.W.findIn K (.ref C456) "__setattr__" = some (some (.builtin "object.__setattr__")))
    (e463 : PySem.W.findIn K (.ref C456) "__getattribute__" = some (some (.builtin "BaseException.__getattribute__")))
    (e464 : PySem.W.findIn K (.ref C456) "__getattr__" = some none)
    (e465 : PySem.W.findIn K (.ref C456) "__init__" = some (some (.ref f458)))
    (e466 : PySem.W.typeIn K (.ref f458) = some (.type "function"))
    (e467 : PySem.W.keepIn K (.ref C456) = true)
    (e468 : PySem.W.subIn K (.ref C456) (.type "BaseException") = some true)
    (e469 : PySem.W.subIn K (.ref C456) (.type "ValueError") = some true)
    (e470 : PySem.W.typeIn K (.ref C456) = some (.type "type"))
    (e471 : PySem.W.hasDictIn K C456 = true)
    (e472 : PySem.W.ks_superIn K C456 C456 "__init__" = some (some (.builtin "ValueError.__init__")))
    (e473 : PySem.W.mroIn K C456 (.ref C456) = some true)
    (e474 : PySem.W.exmOne K (.ref C456) (.ref C456) = some true)
    (e475 : K.lookup f458 = some ⟨oc459, od459, .func (PySem.W.ksFn "__init__" "NotNow.__init__" (defArgs s_NotNowU_initU) (defBody s_NotNowU_initU) (defScope s_NotNowU_initU) .none .none doc459 pm459 an459 (.ref cda459) ct459 cc459), osl459⟩)
    (e476 : PySem.W.codeIn K (.ref cda459) "NotNow.__init__" = true)
    (e477 : K.lookup cda459 = some ⟨ccl459, cdd459, .fields vs459, ccs459⟩)
    (e478 : vs459[2]? = some (.str P.main.file tf459))
    (e479 : K.lookup cc459 = some ⟨cl459, cld459, .cell (some (.ref C456)), csl459⟩)
    (e480 : PySem.W.findIn K (.ref C456) "thing" = some none)
    (a482 : PySem.W.nsIn K mainGlobals "Present" = some (some (.ref C481)))
    (e485 : K.lookup C481 = some (excClassObj nm484 qn484 C481 N484 bs484 bm484 true sn484 sub484 ab484 col484 dd484 k0484 k1484 k2484 k3484 k5484 "ValueError.__new__"))
    (e486 : PySem.HandSPX.refsVE bm484 = true)
    (e487 : PySem.W.findIn K (.ref C481) "__setattr__" = some (some (.builtin "object.__setattr__")))
    (e488 : PySem.W.findIn K (.ref C481) "__getattribute__" = some (some (.builtin "BaseException.__getattribute__")))
    (e489 : PySem.W.findIn K (.ref C481) "__getattr__" = some none)
    (e490 : PySem.W.findIn K (.ref C481) "__init__" = some (some (.ref f483)))
    (e491 : PySem.W.typeIn K (.ref f483) = some (.type "function"))
    (e492 : PySem.W.keepIn K (.ref C481) = true)
    (e493 : PySem.W.subIn K (.ref C481) (.type "BaseException") = some true)
    (e494 : PySem.W.subIn K (.ref C481) (.type "ValueError") = some true)
    (e495 : PySem.W.typeIn K (.ref C481) = some (.type "type"))
    (e496 : PySem.W.hasDictIn K C481 = true)
    (e497 : PySem.W.ks_superIn K C481 C481 "__init__" = some (some (.builtin "ValueError.__init__")))
    (e498 : PySem.W.mroIn K C481 (.ref C481) = some true)
    (e499 : PySem.W.exmOne K (.ref C481) (.ref C481) = some true)
    (e500 : K.lookup f483 = some ⟨oc484, od484, .func (PySem.W.ksFn "__init__" "Present.__init__" (defArgs s_PresentU_initU) (defBody s_PresentU_initU) (defScope s_PresentU_initU) .none .none doc484 pm484 an484 (.ref cda484) ct484 cc484), osl484⟩)
    (e501 : PySem.W.codeIn K (.ref cda484) "Present.__init__" = true)
    (e502 : K.lookup cda484 = some ⟨ccl484, cdd484, .fields vs484, ccs484⟩)
    (e503 : vs484[2]? = some (.str P.main.file tf484))
    (e504 : K.lookup cc484 = some ⟨cl484, cld484, .cell (some (.ref C481)), csl484⟩)
    (e505 : PySem.W.findIn K (.ref C481) "word" = some none)
    (e506 : PySem.W.findIn K (.ref C481) "mode" = some none)
    (a508 : PySem.W.nsIn K mainGlobals "Refused" = some (some (.ref C507)))
    (e511 : K.lookup C507 = some (excClassObj nm510 qn510 C507 N510 bs510 bm510 true sn510 sub510 ab510 col510 dd510 k0510 k1510 k2510 k3510 k5510 "ValueError.__new__"))
    (e512 : PySem.HandSPX.refsVE bm510 = true)
    (e513 : PySem.W.findIn K (.ref C507) "__setattr__" = some (some (.builtin "object.__setattr__")))
    (e514 : PySem.W.findIn K (.ref C507) "__getattribute__" = some (some (.builtin "BaseException.__getattribute__")))
    (e515 : PySem.W.findIn K (.ref C507) "__getattr__" = some none)
    (e516 : PySem.W.findIn K (.ref C507) "__init__" = some (some (.ref f509)))
    (e517 : PySem.W.typeIn K (.ref f509) = some (.type "function"))
    (e518 : PySem.W.keepIn K (.ref C507) = true)
    (e519 : PySem.W.subIn K (.ref C507) (.type "BaseException") = some true)
    (e520 : PySem.W.subIn K (.ref C507) (.type "ValueError") = some true)
    (e521 : PySem.W.typeIn K (.ref C507) = some (.type "type"))
    (e522 : PySem.W.hasDictIn K C507 = true)
    (e523 : PySem.W.ks_superIn K C507 C507 "__init__" = some (some (.builtin "ValueError.__init__")))
    (e524 : PySem.W.mroIn K C507 (.ref C507) = some true)
    (e525 : PySem.W.exmOne K (.ref C507) (.ref C507) = some true)
    (e526 : K.lookup f509 = some ⟨oc510, od510, .func (PySem.W.ksFn "__init__" "Refused.__init__" (defArgs s_RefusedU_initU) (defBody s_RefusedU_initU) (defScope s_RefusedU_initU) .none .none doc510 pm510 an510 (.ref cda510) ct510 cc510), osl510⟩)
    (e527 : PySem.W.codeIn K (.ref cda510) "Refused.__init__" = true)
    (e528 : K.lookup cda510 = some ⟨ccl510, cdd510, .fields vs510, ccs510⟩)
    (e529 : vs510[2]? = some (.str P.main.file tf510))
    (e530 : K.lookup cc510 = some ⟨cl510, cld510, .cell (some (.ref C507)), csl510⟩)
    (e531 : PySem.W.findIn K (.ref C507) "word" = some none)
    (a533 : PySem.W.nsIn K mainGlobals "TooMany" = some (some (.ref C532)))
    (e536 : K.lookup C532 = some (excClassObj nm535 qn535 C532 N535 bs535 bm535 true sn535 sub535 ab535 col535 dd535 k0535 k1535 k2535 k3535 k5535 "ValueError.__new__"))
    (e537 : PySem.HandSPX.refsVE bm535 = true)
    (e538 : PySem.W.findIn K (.ref C532) "__setattr__" = some (some (.builtin "object.__setattr__")))
    (e539 : PySem.W.findIn K (.ref C532) "__getattribute__" = some (some (.builtin "BaseException.__getattribute__")))
    (e540 : PySem.W.findIn K (.ref C532) "__getattr__" = some none)
    (e541 : PySem.W.findIn K (.ref C532) "__init__" = some (some (.ref f534)))
    (e542 : PySem.W.typeIn K (.ref f534) = some (.type "function"))
    (e543 : PySem.W.keepIn K (.ref C532) = true)
    (e544 : PySem.W.subIn K (.ref C532) (.type "BaseException") = some true)
    (e545 : PySem.W.subIn K (.ref C532) (.type "ValueError") = some true)
    (e546 : PySem.W.typeIn K (.ref C532) = some (.type "type"))
    (e547 : PySem.W.hasDictIn K C532 = true)
    (e548 : PySem.W.ks_superIn K C532 C532 "__init__" = some (some (.builtin "ValueError.__init__")))
    (e549 : PySem.W.mroIn K C532 (.ref C532) = some true)
    (e550 : PySem.W.exmOne K (.ref C532) (.ref C532) = some true)
    (e551 : K.lookup f534 = some ⟨oc535, od535, .func (PySem.W.ksFn "__init__" "TooMany.__init__" (defArgs s_TooManyU_initU) (defBody s_TooManyU_initU) (defScope s_TooManyU_initU) .none .none doc535 pm535 an535 (.ref cda535) ct535 cc535), osl535⟩)
    (e552 : PySem.W.codeIn K (.ref cda535) "TooMany.__init__" = true)
    (e553 : K.lookup cda535 = some ⟨ccl535, cdd535, .fields vs535, ccs535⟩)
    (e554 : vs535[2]? = some (.str P.main.file tf535))
    (e555 : K.lookup cc535 = some ⟨cl535, cld535, .cell (some (.ref C532)), csl535⟩)
    (e556 : PySem.W.findIn K (.ref C532) "what" = some none)
    (a558 : PySem.W.nsIn K mainGlobals "Unknown" = some (some (.ref C557)))
    (e561 : K.lookup C557 = some (excClassObj nm560 qn560 C557 N560 bs560 bm560 true sn560 sub560 ab560 col560 dd560 k0560 k1560 k2560 k3560 k5560 "ValueError.__new__"))
    (e562 : PySem.HandSPX.refsVE bm560 = true)
    (e563 : PySem.W.findIn K (.ref C557) "__setattr__" = some (some (.builtin "object.__setattr__")))
    (e564 : PySem.W.findIn K (.ref C557) "__getattribute__" = some (some (.builtin "BaseException.__getattribute__")))
    (e565 : PySem.W.findIn K (.ref C557) "__getattr__" = some none)
    (e566 : PySem.W.findIn K (.ref C557) "__init__" = some (some (.ref f559)))
    (e567 : PySem.W.typeIn K (.ref f559) = some (.type "function"))
    (e568 : PySem.W.keepIn K (.ref C557) = true)
    (e569 : PySem.W.subIn K (.ref C557) (.type "BaseException") = some true)
    (e570 : PySem.W.subIn K (.ref C557) (.type "ValueError") = some true)
    (e571 : PySem.W.typeIn K (.ref C557) = some (.type "type"))
    (e572 : PySem.W.hasDictIn K C557 = true)
    (e573 : PySem.W.ks_superIn K C557 C557 "__init__" = some (some (.builtin "ValueError.__init__")))
    (e574 : PySem.W.mroIn K C557 (.ref C557) = some true)
    (e575 : PySem.W.exmOne K (.ref C557) (.ref C557) = some true)
    (e576 : K.lookup f559 = some ⟨oc560, od560, .func (PySem.W.ksFn "__init__" "Unknown.__init__" (defArgs s_UnknownU_initU) (defBody s_UnknownU_initU) (defScope s_UnknownU_initU) .none .none doc560 pm560 an560 (.ref cda560) ct560 cc560), osl560⟩)
    (e577 : PySem.W.codeIn K (.ref cda560) "Unknown.__init__" = true)
    (e578 : K.lookup cda560 = some ⟨ccl560, cdd560, .fields vs560, ccs560⟩)
    (e579 : vs560[2]? = some (.str P.main.file tf560))
    (e580 : K.lookup cc560 = some ⟨cl560, cld560, .cell (some (.ref C557)), csl560⟩)
    (e581 : PySem.W.findIn K (.ref C557) "name" = some none)
    (a583 : PySem.W.nsIn K mainGlobals "Unlike" = some (some (.ref C582)))
    (e586 : K.lookup C582 = some (excClassObj nm585 qn585 C582 N585 bs585 bm585 true sn585 sub585 ab585 col585 dd585 k0585 k1585 k2585 k3585 k5585 "ValueError.__new__"))
    (e587 : PySem.HandSPX.refsVE bm585 = true)
    (e588 : PySem.W.findIn K (.ref C582) "__setattr__" = some (some (.builtin "object.__setattr__")))
    (e589 : PySem.W.findIn K (.ref C582) "__getattribute__" = some (some (.builtin "BaseException.__getattribute__")))
    (e590 : PySem.W.findIn K (.ref C582) "__getattr__" = some none)
    (e591 : PySem.W.findIn K (.ref C582) "__init__" = some (some (.ref f584)))
    (e592 : PySem.W.typeIn K (.ref f584) = some (.type "function"))
    (e593 : PySem.W.keepIn K (.ref C582) = true)
    (e594 : PySem.W.subIn K (.ref C582) (.type "BaseException") = some true)
    (e595 : PySem.W.subIn K (.ref C582) (.type "ValueError") = some true)
    (e596 : PySem.W.typeIn K (.ref C582) = some (.type "type"))
    (e597 : PySem.W.hasDictIn K C582 = true)
    (e598 : PySem.W.ks_superIn K C582 C582 "__init__" = some (some (.builtin "ValueError.__init__")))
    (e599 : PySem.W.mroIn K C582 (.ref C582) = some true)
    (e600 : PySem.W.exmOne K (.ref C582) (.ref C582) = some true)
    (e601 : K.lookup f584 = some ⟨oc585, od585, .func (PySem.W.ksFn "__init__" "Unlike.__init__" (defArgs s_UnlikeU_initU) (defBody s_UnlikeU_initU) (defScope s_UnlikeU_initU) .none .none doc585 pm585 an585 (.ref cda585) ct585 cc585), osl585⟩)
    (e602 : PySem.W.codeIn K (.ref cda585) "Unlike.__init__" = true)
    (e603 : K.lookup cda585 = some ⟨ccl585, cdd585, .fields vs585, ccs585⟩)
    (e604 : vs585[2]? = some (.str P.main.file tf585))
    (e605 : K.lookup cc585 = some ⟨cl585, cld585, .cell (some (.ref C582)), csl585⟩)
    (e606 : PySem.W.findIn K (.ref C582) "name" = some none)
    (a608 : PySem.W.nsIn K mainGlobals "Waits" = some (some (.ref C607)))
    (e611 : K.lookup C607 = some (excClassObj nm610 qn610 C607 N610 bs610 bm610 true sn610 sub610 ab610 col610 dd610 k0610 k1610 k2610 k3610 k5610 "ValueError.__new__"))
    (e612 : PySem.HandSPX.refsVE bm610 = true)
    (e613 : PySem.W.findIn K (.ref C607) "__setattr__" = some (some (.builtin "object.__setattr__")))
    (e614 : PySem.W.findIn K (.ref C607) "__getattribute__" = some (some (.builtin "BaseException.__getattribute__")))
    (e615 : PySem.W.findIn K (.ref C607) "__getattr__" = some none)
    (e616 : PySem.W.findIn K (.ref C607) "__init__" = some (some (.ref f609)))
    (e617 : PySem.W.typeIn K (.ref f609) = some (.type "function"))
    (e618 : PySem.W.keepIn K (.ref C607) = true)
    (e619 : PySem.W.subIn K (.ref C607) (.type "BaseException") = some true)
    (e620 : PySem.W.subIn K (.ref C607) (.type "ValueError") = some true)
    (e621 : PySem.W.typeIn K (.ref C607) = some (.type "type"))
    (e622 : PySem.W.hasDictIn K C607 = true)
    (e623 : PySem.W.ks_superIn K C607 C607 "__init__" = some (some (.builtin "ValueError.__init__")))
    (e624 : PySem.W.mroIn K C607 (.ref C607) = some true)
    (e625 : PySem.W.exmOne K (.ref C607) (.ref C607) = some true)
    (e626 : K.lookup f609 = some ⟨oc610, od610, .func (PySem.W.ksFn "__init__" "Waits.__init__" (defArgs s_WaitsU_initU) (defBody s_WaitsU_initU) (defScope s_WaitsU_initU) .none .none doc610 pm610 an610 (.ref cda610) ct610 cc610), osl610⟩)
    (e627 : PySem.W.codeIn K (.ref cda610) "Waits.__init__" = true)
    (e628 : K.lookup cda610 = some ⟨ccl610, cdd610, .fields vs610, ccs610⟩)
    (e629 : vs610[2]? = some (.str P.main.file tf610))
    (e630 : K.lookup cc610 = some ⟨cl610, cld610, .cell (some (.ref C607)), csl610⟩)
    (e631 : PySem.W.findIn K (.ref C607) "word" = some none)
    (e632 : PySem.W.findIn K (.ref C607) "record" = some none)
    (z633 : kitAll K [C4, C29, C54, C79, C104, C129, C154, C179, C205, C230, C255, C281, C305, C330, C355, C380, C405, C430, C456, C481, C507, C532, C557, C582, C607] = true)
    (z634 : kitBase K C2 [C4, C29, C54, C79, C104, C129, C154, C179, C205, C230, C255, C281, C305, C330, C355, C380, C405, C430, C456, C481, C507, C532, C557, C582, C607] = true)
    (z635 : exkAll K [C4, C29, C54, C79, C104, C129, C154, C179, C205, C230, C255, C281, C305, C330, C355, C380, C405, C430, C456, C481, C507, C532, C557, C582, C607] = true)
    (z636 : PySem.W.specialIn K (.builtin "object.__class__") "__get__" = some (some (.builtin "getset_descriptor.__get__")))
    (z637 : PySem.W.takesIn K (.builtin "object.__class__") = some true)
    (a639 : PySem.W.nsIn K mainGlobals "_law_pool" = some (some (.ref f638)))
    (l640 : K.lookup f638 = some ⟨oc640, od640, .func (PySem.W.fnOf "_law_pool" "_law_pool" (defArgs s_law_pool) (defBody s_law_pool) (defScope s_law_pool) .none kV640 dc640 pm640 an640 cd640 ct640), sl640⟩)
    (c640 : PySem.W.codeIn K cd640 "_law_pool" = true)
    (k640 : PySem.W.keepIn K (.ref f638) = true)
    (a642 : PySem.W.nsIn K mainGlobals "_law_draw" = some (some (.ref f641)))
    (l643 : K.lookup f641 = some ⟨oc643, od643, .func (PySem.W.fnOf "_law_draw" "_law_draw" (defArgs s_law_draw) (defBody s_law_draw) (defScope s_law_draw) .none kV643 dc643 pm643 an643 cd643 ct643), sl643⟩)
    (c643 : PySem.W.codeIn K cd643 "_law_draw" = true)
    (k643 : PySem.W.keepIn K (.ref f641) = true)
    (a645 : PySem.W.nsIn K mainGlobals "_law_word" = some (some (.ref f644)))
    (l646 : K.lookup f644 = some ⟨oc646, od646, .func (PySem.W.fnOf "_law_word" "_law_word" (defArgs s_law_word) (defBody s_law_word) (defScope s_law_word) .none kV646 dc646 pm646 an646 cd646 ct646), sl646⟩)
    (c646 : PySem.W.codeIn K cd646 "_law_word" = true)
    (k646 : PySem.W.keepIn K (.ref f644) = true)
    (a648 : PySem.W.nsIn K mainGlobals "_law_thing" = some (some (.ref f647)))
    (l649 : K.lookup f647 = some ⟨oc649, od649, .func (PySem.W.fnOf "_law_thing" "_law_thing" (defArgs s_law_thing) (defBody s_law_thing) (defScope s_law_thing) .none kV649 dc649 pm649 an649 cd649 ct649), sl649⟩)
    (c649 : PySem.W.codeIn K cd649 "_law_thing" = true)
    (k649 : PySem.W.keepIn K (.ref f647) = true)
    (a651 : PySem.W.nsIn K mainGlobals "_law_classes" = some (some (.ref f650)))
    (l652 : K.lookup f650 = some ⟨oc652, od652, .func (PySem.W.fnOf "_law_classes" "_law_classes" (defArgs s_law_classes) (defBody s_law_classes) (defScope s_law_classes) .none kV652 dc652 pm652 an652 cd652 ct652), sl652⟩)
    (c652 : PySem.W.codeIn K cd652 "_law_classes" = true)
    (k652 : PySem.W.keepIn K (.ref f650) = true)
    (a654 : PySem.W.nsIn K mainGlobals "_law_first" = some (some (.ref f653)))
    (l655 : K.lookup f653 = some ⟨oc655, od655, .func (PySem.W.fnOf "_law_first" "_law_first" (defArgs s_law_first) (defBody s_law_first) (defScope s_law_first) .none kV655 dc655 pm655 an655 cd655 ct655), sl655⟩)
    (c655 : PySem.W.codeIn K cd655 "_law_first" = true)
    (k655 : PySem.W.keepIn K (.ref f653) = true)
    (a657 : PySem.W.nsIn K mainGlobals "_law_second" = some (some (.ref f656)))
    (l658 : K.lookup f656 = some ⟨oc658, od658, .func (PySem.W.fnOf "_law_second" "_law_second" (defArgs s_law_second) (defBody s_law_second) (defScope s_law_second) .none kV658 dc658 pm658 an658 cd658 ct658), sl658⟩)
    (c658 : PySem.W.codeIn K cd658 "_law_second" = true)
    (k658 : PySem.W.keepIn K (.ref f656) = true)
    (a660 : PySem.W.nsIn K mainGlobals "_law_fields" = some (some (.ref f659)))
    (l661 : K.lookup f659 = some ⟨oc661, od661, .func (PySem.W.fnOf "_law_fields" "_law_fields" (defArgs s_law_fields) (defBody s_law_fields) (defScope s_law_fields) .none kV661 dc661 pm661 an661 cd661 ct661), sl661⟩)
    (c661 : PySem.W.codeIn K cd661 "_law_fields" = true)
    (k661 : PySem.W.keepIn K (.ref f659) = true)
    (l662 : K.lookup f0 = some ⟨oc662, od662, .func (PySem.W.fnOf "law" "law" (defArgs s_law) (defBody s_law) (defScope s_law) .none kV662 dc662 pm662 an662 cd662 ct662), sl662⟩)
    (c662 : PySem.W.codeIn K cd662 "law" = true)
    (k662 : PySem.W.keepIn K (.ref f0) = true)
    (z663 : PySem.W.nsIn K mainGlobals "len" = some none)
    (z664 : PySem.W.nsIn K mainGlobals "abs" = some none)
    (z665 : PySem.W.nsIn K mainGlobals "int" = some none)
    (z666 : PySem.W.nsIn K mainGlobals "range" = some none)
    (z667 : PySem.W.nsIn K mainGlobals "isinstance" = some none)
    (z668 : PySem.W.nsIn K mainGlobals "super" = some none)
    (z669 : PySem.W.nsIn K mainGlobals "max" = some none)
    (z670 : PySem.W.nsIn K mainGlobals "min" = some none)
    (z671 : PySem.W.nsIn K mainGlobals "ValueError" = some none)
    (z672 : PySem.W.nsIn K mainGlobals "repr" = some none)
    : ∃ fd : FuncData, (∀ (s : Shared) (v : Value), BindsTo s fd ⟨[v], []⟩ [("_law_script", v)]) ∧ ∀ base : Heap, K.In base → base.Ns mainGlobals mg → FnG P w K mg base CX0 9 fa fd ["_law_script"] (spLaw K) := by
  have e := hfa0.symm.trans (PySem.W.mg_of X G a0)
  cases e
  exact all_mk X G hfa0 z1 a3 a5 e8 e9 e10 e11 e12 e13 e14 e15 e16 e17 e18 e19 e20 e21 e22 e23 e24 e25 e26 e27 e28 a30 e33 e34 e35 e36 e37 e38 e39 e40 e41 e42 e43 e44 e45 e46 e47 e48 e49 e50 e51 e52 e53 a55 e58 e59 e60 e61 e62 e63 e64 e65 e66 e67 e68 e69 e70 e71 e72 e73 e74 e75 e76 e77 e78 a80 e83 e84 e85 e86 e87 e88 e89 e90 e91 e92 e93 e94 e95 e96 e97 e98 e99 e100 e101 e102 e103 a105 e108 e109 e110 e111 e112 e113 e114 e115 e116 e117 e118 e119 e120 e121 e122 e123 e124 e125 e126 e127 e128 a130 e133 e134 e135 e136 e137 e138 e139 e140 e141 e142 e143 e144 e145 e146 e147 e148 e149 e150 e151 e152 e153 a155 e158 e159 e160 e161 e162 e163 e164 e165 e166 e167 e168 e169 e170 e171 e172 e173 e174 e175 e176 e177 e178 a180 e183 e184 e185 e186 e187 e188 e189 e190 e191 e192 e193 e194 e195 e196 e197 e198 e199 e200 e201 e202 e203 e204 a206 e209 e210 e211 e212 e213 e214 e215 e216 e217 e218 e219 e220 e221 e222 e223 e224 e225 e226 e227 e228 e229 a231 e234 e235 e236 e237 e238 e239 e240 e241 e242 e243 e244 e245 e246 e247 e248 e249 e250 e251 e252 e253 e254 a256 e259 e260 e261 e262 e263 e264 e265 e266 e267 e268 e269 e270 e271 e272 e273 e274 e275 e276 e277 e278 e279 e280 a282 e285 e286 e287 e288 e289 e290 e291 e292 e293 e294 e295 e296 e297 e298 e299 e300 e301 e302 e303 e304 a306 e309 e310 e311 e312 e313 e314 e315 e316 e317 e318 e319 e320 e321 e322 e323 e324 e325 e326 e327 e328 e329 a331 e334 e335 e336 e337 e338 e339 e340 e341 e342 e343 e344 e345 e346 e347 e348 e349 e350 e351 e352 e353 e354 a356 e359 e360 e361 e362 e363 e364 e365 e366 e367 e368 e369 e370 e371 e372 e373 e374 e375 e376 e377 e378 e379 a381 e384 e385 e386 e387 e388 e389 e390 e391 e392 e393 e394 e395 e396 e397 e398 e399 e400 e401 e402 e403 e404 a406 e409 e410 e411 e412 e413 e414 e415 e416 e417 e418 e419 e420 e421 e422 e423 e424 e425 e426 e427 e428 e429 a431 e434 e435 e436 e437 e438 e439 e440 e441 e442 e443 e444 e445 e446 e447 e448 e449 e450 e451 e452 e453 e454 e455 a457 e460 e461 e462 e463 e464 e465 e466 e467 e468 e469 e470 e471 e472 e473 e474 e475 e476 e477 e478 e479 e480 a482 e485 e486 e487 e488 e489 e490 e491 e492 e493 e494 e495 e496 e497 e498 e499 e500 e501 e502 e503 e504 e505 e506 a508 e511 e512 e513 e514 e515 e516 e517 e518 e519 e520 e521 e522 e523 e524 e525 e526 e527 e528 e529 e530 e531 a533 e536 e537 e538 e539 e540 e541 e542 e543 e544 e545 e546 e547 e548 e549 e550 e551 e552 e553 e554 e555 e556 a558 e561 e562 e563 e564 e565 e566 e567 e568 e569 e570 e571 e572 e573 e574 e575 e576 e577 e578 e579 e580 e581 a583 e586 e587 e588 e589 e590 e591 e592 e593 e594 e595 e596 e597 e598 e599 e600 e601 e602 e603 e604 e605 e606 a608 e611 e612 e613 e614 e615 e616 e617 e618 e619 e620 e621 e622 e623 e624 e625 e626 e627 e628 e629 e630 e631 e632 z633 z634 z635 z636 z637 a639 l640 c640 k640 a642 l643 c643 k643 a645 l646 c646 k646 a648 l649 c649 k649 a651 l652 c652 k652 a654 l655 c655 k655 a657 l658 c658 k658 a660 l661 c661 k661 l662 c662 k662 z663 z664 z665 z666 z667 z668 z669 z670 z671 z672
end Ic
open PySem PySem.W PyProof.Rows
set_option maxRecDepth 100000 in
set_option maxHeartbeats 0 in
theorem PySem.Challenge.cw_innercommits_k88_errors_made_by_hand_holds : PySem.Challenge.rw_innercommits_k88_errors_made_by_hand.Holds := by
  w_on; o_law; k_head; (case hw => w_witness2)
  k_fill
  refine Ic.walk_ofBG (l := PySem.Challenge.rw_innercommits_k88_errors_made_by_hand) (n := 63) (k := 9) (x := "_law_script") (CX := fun _ => L2.CX0) (sp := fun w => Ic.spLaw _) rfl (by decide) rfl (by decide +kernel) ⟨rfl, by decide, by decide⟩ (fun w h Y => PySem.W.kIn_of Y) ?F (fun _ _ a ns hl _ _ hS => ⟨a, ns, rfl, hS, hl, fun _ => rfl⟩) (fun _ _ _ _ _ h => h)
  case F =>
    intro w mg fa h KX G hmg
    refine' Ic.all_mk' KX G hmg ?a0 ?z1 ?a3 ?a5 ?e8 ?e9 ?e10 ?e11 ?e12 ?e13 ?e14 ?e15 ?e16 ?e17 ?e18 ?e19 ?e20 ?e21 ?e22 ?e23 ?e24 ?e25 ?e26 ?e27 ?e28 ?a30 ?e33 ?e34 ?e35 ?e36 ?e37 ?e38 ?e39 ?e40 ?e41 ?e42 ?e43 ?e44 ?e45 ?e46 ?e47 ?e48 ?e49 ?e50 ?e51 ?e52 ?e53 ?a55 ?e58 ?e59 ?e60 ?e61 ?e62 ?e63 ?e64 ?e65 ?e66 ?e67 ?e68 ?e69 ?e70 ?e71 ?e72 ?e73 ?e74 ?e75 ?e76 ?e77 ?e78 ?a80 ?e83 ?e84 ?e85 ?e86 ?e87 ?e88 ?e89 ?e90 ?e91 ?e92 ?e93 ?e94 ?e95 ?e96 ?e97 ?e98 ?e99 ?e100 ?e101 ?e102 ?e103 ?a105 ?e108 ?e109 ?e110 ?e111 ?e112 ?e113 ?e114 ?e115 ?e116 ?e117 ?e118 ?e119 ?e120 ?e121 ?e122 ?e123 ?e124 ?e125 ?e126 ?e127 ?e128 ?a130 ?e133 ?e134 ?e135 ?e136 ?e137 ?e138 ?e139 ?e140 ?e141 ?e142 ?e143 ?e144 ?e145 ?e146 ?e147 ?e148 ?e149 ?e150 ?e151 ?e152 ?e153 ?a155 ?e158 ?e159 ?e160 ?e161 ?e162 ?e163 ?e164 ?e165 ?e166 ?e167 ?e168 ?e169 ?e170 ?e171 ?e172 ?e173 ?e174 ?e175 ?e176 ?e177 ?e178 ?a180 ?e183 ?e184 ?e185 ?e186 ?e187 ?e188 ?e189 ?e190 ?e191 ?e192 ?e193 ?e194 ?e195 ?e196 ?e197 ?e198 ?e199 ?e200 ?e201 ?e202 ?e203 ?e204 ?a206 ?e209 ?e210 ?e211 ?e212 ?e213 ?e214 ?e215 ?e216 ?e217 ?e218 ?e219 ?e220 ?e221 ?e222 ?e223 ?e224 ?e225 ?e226 ?e227 ?e228 ?e229 ?a231 ?e234 ?e235 ?e236 ?e237 ?e238 ?e239 ?e240 ?e241 ?e242 ?e243 ?e244 ?e245 ?e246 ?e247 ?e248 ?e249 ?e250 ?e251 ?e252 ?e253 ?e254 ?a256 ?e259 ?e260 ?e261 ?e262 ?e263 ?e264 ?e265 ?e266 ?e267 ?e268 ?e269 ?e270 ?e271 ?e272 ?e273 ?e274 ?e275 ?e276 ?e277 ?e278 ?e279 ?e280 ?a282 ?e285 ?e286 ?e287 ?e288 ?e289 ?e290 ?e291 ?e292 ?e293 ?e294 ?e295 ?e296 ?e297 ?e298 ?e299 ?e300 ?e301 ?e302 ?e303 ?e304 ?a306 ?e309 ?e310 ?e311 ?e312 ?e313 ?e314 ?e315 ?e316 ?e317 ?e318 ?e319 ?e320 ?e321 ?e322 ?e323 ?e324 ?e325 ?e326 ?e327 ?e328 ?e329 ?a331 ?e334 ?e335 ?e336 ?e337 ?e338 ?e339 ?e340 ?e341 ?e342 ?e343 ?e344 ?e345 ?e346 ?e347 ?e348 ?e349 ?e350 ?e351 ?e352 ?e353 ?e354 ?a356 ?e359 ?e360 ?e361 ?e362 ?e363 ?e364 ?e365 ?e366 ?e367 ?e368 ?e369 ?e370 ?e371 ?e372 ?e373 ?e374 ?e375 ?e376 ?e377 ?e378 ?e379 ?a381 ?e384 ?e385 ?e386 ?e387 ?e388 ?e389 ?e390 ?e391 ?e392 ?e393 ?e394 ?e395 ?e396 ?e397 ?e398 ?e399 ?e400 ?e401 ?e402 ?e403 ?e404 ?a406 ?e409 ?e410 ?e411 ?e412 ?e413 ?e414 ?e415 ?e416 ?e417 ?e418 ?e419 ?e420 ?e421 ?e422 ?e423 ?e424 ?e425 ?e426 ?e427 ?e428 ?e429 ?a431 ?e434 ?e435 ?e436 ?e437 ?e438 ?e439 ?e440 ?e441 ?e442 ?e443 ?e444 ?e445 ?e446 ?e447 ?e448 ?e449 ?e450 ?e451 ?e452 ?e453 ?e454 ?e455 ?a457 ?e460 ?e461 ?e462 ?e463 ?e464 ?e465 ?e466 ?e467 ?e468 ?e469 ?e470 ?e471 ?e472 ?e473 ?e474 ?e475 ?e476 ?e477 ?e478 ?e479 ?e480 ?a482 ?e485 ?e486 ?e487 ?e488 ?e489 ?e490 ?e491 ?e492 ?e493 ?e494 ?e495 ?e496 ?e497 ?e498 ?e499 ?e500 ?e501 ?e502 ?e503 ?e504 ?e505 ?e506 ?a508 ?e511 ?e512 ?e513 ?e514 ?e515 ?e516 ?e517 ?e518 ?e519 ?e520 ?e521 ?e522 ?e523 ?e524 ?e525 ?e526 ?e527 ?e528 ?e529 ?e530 ?e531 ?a533 ?e536 ?e537 ?e538 ?e539 ?e540 ?e541 ?e542 ?e543 ?e544 ?e545 ?e546 ?e547 ?e548 ?e549 ?e550 ?e551 ?e552 ?e553 ?e554 ?e555 ?e556 ?a558 ?e561 ?e562 ?e563 ?e564 ?e565 ?e566 ?e567 ?e568 ?e569 ?e570 ?e571 ?e572 ?e573 ?e574 ?e575 ?e576 ?e577 ?e578 ?e579 ?e580 ?e581 ?a583 ?e586 ?e587 ?e588 ?e589 ?e590 ?e591 ?e592 ?e593 ?e594 ?e595 ?e596 ?e597 ?e598 ?e599 ?e600 ?e601 ?e602 ?e603 ?e604 ?e605 ?e606 ?a608 ?e611 ?e612 ?e613 ?e614 ?e615 ?e616 ?e617 ?e618 ?e619 ?e620 ?e621 ?e622 ?e623 ?e624 ?e625 ?e626 ?e627 ?e628 ?e629 ?e630 ?e631 ?e632 ?z633 ?z634 ?z635 ?z636 ?z637 ?a639 ?l640 ?c640 ?k640 ?a642 ?l643 ?c643 ?k643 ?a645 ?l646 ?c646 ?k646 ?a648 ?l649 ?c649 ?k649 ?a651 ?l652 ?c652 ?k652 ?a654 ?l655 ?c655 ?k655 ?a657 ?l658 ?c658 ?k658 ?a660 ?l661 ?c661 ?k661 ?l662 ?c662 ?k662 ?z663 ?z664 ?z665 ?z666 ?z667 ?z668 ?z669 ?z670 ?z671 ?z672
    (case a0 => k_is)
    (case z1 => k_is)
    (case a3 => k_is)
    (case a5 => k_is)
    (case e8 => k_is)
    (case e9 => kernel_rfl)
    (case e10 => k_is)
    (case e11 => k_is)
    (case e12 => k_is)
    (case e13 => k_is)
    (case e14 => k_is)
    (case e15 => k_is)
    (case e16 => k_is)
    (case e17 => k_is)
    (case e18 => k_is)
    (case e19 => k_is)
    (case e20 => kernel_rfl)
    (case e21 => k_is)
    (case e22 => kernel_rfl)
    (case e23 => k_is)
    (case e24 => k_is)
    (case e25 => k_is)
    (case e26 => exact rfl)
    (case e27 => k_is)
    (case e28 => k_is)
    (case a30 => k_is)
    (case e33 => k_is)
    (case e34 => kernel_rfl)
    (case e35 => k_is)
    (case e36 => k_is)
    (case e37 => k_is)
    (case e38 => k_is)
    (case e39 => k_is)
    (case e40 => k_is)
    (case e41 => k_is)
    (case e42 => k_is)
    (case e43 => k_is)
    (case e44 => k_is)
    (case e45 => kernel_rfl)
    (case e46 => k_is)
    (case e47 => kernel_rfl)
    (case e48 => k_is)
    (case e49 => k_is)
    (case e50 => k_is)
    (case e51 => exact rfl)
    (case e52 => k_is)
    (case e53 => k_is)
    (case a55 => k_is)
    (case e58 => k_is)
    (case e59 => kernel_rfl)
    (case e60 => k_is)
    (case e61 => k_is)
    (case e62 => k_is)
    (case e63 => k_is)
    (case e64 => k_is)
    (case e65 => k_is)
    (case e66 => k_is)
    (case e67 => k_is)
    (case e68 => k_is)
    (case e69 => k_is)
    (case e70 => kernel_rfl)
    (case e71 => k_is)
    (case e72 => kernel_rfl)
    (case e73 => k_is)
    (case e74 => k_is)
    (case e75 => k_is)
    (case e76 => exact rfl)
    (case e77 => k_is)
    (case e78 => k_is)
    (case a80 => k_is)
    (case e83 => k_is)
    (case e84 => kernel_rfl)
    (case e85 => k_is)
    (case e86 => k_is)
    (case e87 => k_is)
    (case e88 => k_is)
    (case e89 => k_is)
    (case e90 => k_is)
    (case e91 => k_is)
    (case e92 => k_is)
    (case e93 => k_is)
    (case e94 => k_is)
    (case e95 => kernel_rfl)
    (case e96 => k_is)
    (case e97 => kernel_rfl)
    (case e98 => k_is)
    (case e99 => k_is)
    (case e100 => k_is)
    (case e101 => exact rfl)
    (case e102 => k_is)
    (case e103 => k_is)
    (case a105 => k_is)
    (case e108 => k_is)
    (case e109 => kernel_rfl)
    (case e110 => k_is)
    (case e111 => k_is)
    (case e112 => k_is)
    (case e113 => k_is)
    (case e114 => k_is)
    (case e115 => k_is)
    (case e116 => k_is)
    (case e117 => k_is)
    (case e118 => k_is)
    (case e119 => k_is)
    (case e120 => kernel_rfl)
    (case e121 => k_is)
    (case e122 => kernel_rfl)
    (case e123 => k_is)
    (case e124 => k_is)
    (case e125 => k_is)
    (case e126 => exact rfl)
    (case e127 => k_is)
    (case e128 => k_is)
    (case a130 => k_is)
    (case e133 => k_is)
    (case e134 => kernel_rfl)
    (case e135 => k_is)
    (case e136 => k_is)
    (case e137 => k_is)
    (case e138 => k_is)
    (case e139 => k_is)
    (case e140 => k_is)
    (case e141 => k_is)
    (case e142 => k_is)
    (case e143 => k_is)
    (case e144 => k_is)
    (case e145 => kernel_rfl)
    (case e146 => k_is)
    (case e147 => kernel_rfl)
    (case e148 => k_is)
    (case e149 => k_is)
    (case e150 => k_is)
    (case e151 => exact rfl)
    (case e152 => k_is)
    (case e153 => k_is)
    (case a155 => k_is)
    (case e158 => k_is)
    (case e159 => kernel_rfl)
    (case e160 => k_is)
    (case e161 => k_is)
    (case e162 => k_is)
    (case e163 => k_is)
    (case e164 => k_is)
    (case e165 => k_is)
    (case e166 => k_is)
    (case e167 => k_is)
    (case e168 => k_is)
    (case e169 => k_is)
    (case e170 => kernel_rfl)
    (case e171 => k_is)
    (case e172 => kernel_rfl)
    (case e173 => k_is)
    (case e174 => k_is)
    (case e175 => k_is)
    (case e176 => exact rfl)
    (case e177 => k_is)
    (case e178 => k_is)
    (case a180 => k_is)
    (case e183 => k_is)
    (case e184 => kernel_rfl)
    (case e185 => k_is)
    (case e186 => k_is)
    (case e187 => k_is)
    (case e188 => k_is)
    (case e189 => k_is)
    (case e190 => k_is)
    (case e191 => k_is)
    (case e192 => k_is)
    (case e193 => k_is)
    (case e194 => k_is)
    (case e195 => kernel_rfl)
    (case e196 => k_is)
    (case e197 => kernel_rfl)
    (case e198 => k_is)
    (case e199 => k_is)
    (case e200 => k_is)
    (case e201 => exact rfl)
    (case e202 => k_is)
    (case e203 => k_is)
    (case e204 => k_is)
    (case a206 => k_is)
    (case e209 => k_is)
    (case e210 => kernel_rfl)
    (case e211 => k_is)
    (case e212 => k_is)
    (case e213 => k_is)
    (case e214 => k_is)
    (case e215 => k_is)
    (case e216 => k_is)
    (case e217 => k_is)
    (case e218 => k_is)
    (case e219 => k_is)
    (case e220 => k_is)
    (case e221 => kernel_rfl)
    (case e222 => k_is)
    (case e223 => kernel_rfl)
    (case e224 => k_is)
    (case e225 => k_is)
    (case e226 => k_is)
    (case e227 => exact rfl)
    (case e228 => k_is)
    (case e229 => k_is)
    (case a231 => k_is)
    (case e234 => k_is)
    (case e235 => kernel_rfl)
    (case e236 => k_is)
    (case e237 => k_is)
    (case e238 => k_is)
    (case e239 => k_is)
    (case e240 => k_is)
    (case e241 => k_is)
    (case e242 => k_is)
    (case e243 => k_is)
    (case e244 => k_is)
    (case e245 => k_is)
    (case e246 => kernel_rfl)
    (case e247 => k_is)
    (case e248 => kernel_rfl)
    (case e249 => k_is)
    (case e250 => k_is)
    (case e251 => k_is)
    (case e252 => exact rfl)
    (case e253 => k_is)
    (case e254 => k_is)
    (case a256 => k_is)
    (case e259 => k_is)
    (case e260 => kernel_rfl)
    (case e261 => k_is)
    (case e262 => k_is)
    (case e263 => k_is)
    (case e264 => k_is)
    (case e265 => k_is)
    (case e266 => k_is)
    (case e267 => k_is)
    (case e268 => k_is)
    (case e269 => k_is)
    (case e270 => k_is)
    (case e271 => kernel_rfl)
    (case e272 => k_is)
    (case e273 => kernel_rfl)
    (case e274 => k_is)
    (case e275 => k_is)
    (case e276 => k_is)
    (case e277 => exact rfl)
    (case e278 => k_is)
    (case e279 => k_is)
    (case e280 => k_is)
    (case a282 => k_is)
    (case e285 => k_is)
    (case e286 => kernel_rfl)
    (case e287 => k_is)
    (case e288 => k_is)
    (case e289 => k_is)
    (case e290 => k_is)
    (case e291 => k_is)
    (case e292 => k_is)
    (case e293 => k_is)
    (case e294 => k_is)
    (case e295 => k_is)
    (case e296 => k_is)
    (case e297 => kernel_rfl)
    (case e298 => k_is)
    (case e299 => kernel_rfl)
    (case e300 => k_is)
    (case e301 => k_is)
    (case e302 => k_is)
    (case e303 => exact rfl)
    (case e304 => k_is)
    (case a306 => k_is)
    (case e309 => k_is)
    (case e310 => kernel_rfl)
    (case e311 => k_is)
    (case e312 => k_is)
    (case e313 => k_is)
    (case e314 => k_is)
    (case e315 => k_is)
    (case e316 => k_is)
    (case e317 => k_is)
    (case e318 => k_is)
    (case e319 => k_is)
    (case e320 => k_is)
    (case e321 => kernel_rfl)
    (case e322 => k_is)
    (case e323 => kernel_rfl)
    (case e324 => k_is)
    (case e325 => k_is)
    (case e326 => k_is)
    (case e327 => exact rfl)
    (case e328 => k_is)
    (case e329 => k_is)
    (case a331 => k_is)
    (case e334 => k_is)
    (case e335 => kernel_rfl)
    (case e336 => k_is)
    (case e337 => k_is)
    (case e338 => k_is)
    (case e339 => k_is)
    (case e340 => k_is)
    (case e341 => k_is)
    (case e342 => k_is)
    (case e343 => k_is)
    (case e344 => k_is)
    (case e345 => k_is)
    (case e346 => kernel_rfl)
    (case e347 => k_is)
    (case e348 => kernel_rfl)
    (case e349 => k_is)
    (case e350 => k_is)
    (case e351 => k_is)
    (case e352 => exact rfl)
    (case e353 => k_is)
    (case e354 => k_is)
    (case a356 => k_is)
    (case e359 => k_is)
    (case e360 => kernel_rfl)
    (case e361 => k_is)
    (case e362 => k_is)
    (case e363 => k_is)
    (case e364 => k_is)
    (case e365 => k_is)
    (case e366 => k_is)
    (case e367 => k_is)
    (case e368 => k_is)
    (case e369 => k_is)
    (case e370 => k_is)
    (case e371 => kernel_rfl)
    (case e372 => k_is)
    (case e373 => kernel_rfl)
    (case e374 => k_is)
    (case e375 => k_is)
    (case e376 => k_is)
    (case e377 => exact rfl)
    (case e378 => k_is)
    (case e379 => k_is)
    (case a381 => k_is)
    (case e384 => k_is)
    (case e385 => kernel_rfl)
    (case e386 => k_is)
    (case e387 => k_is)
    (case e388 => k_is)
    (case e389 => k_is)
    (case e390 => k_is)
    (case e391 => k_is)
    (case e392 => k_is)
    (case e393 => k_is)
    (case e394 => k_is)
    (case e395 => k_is)
    (case e396 => kernel_rfl)
    (case e397 => k_is)
    (case e398 => kernel_rfl)
    (case e399 => k_is)
    (case e400 => k_is)
    (case e401 => k_is)
    (case e402 => exact rfl)
    (case e403 => k_is)
    (case e404 => k_is)
    (case a406 => k_is)
    (case e409 => k_is)
    (case e410 => kernel_rfl)
    (case e411 => k_is)
    (case e412 => k_is)
    (case e413 => k_is)
    (case e414 => k_is)
    (case e415 => k_is)
    (case e416 => k_is)
    (case e417 => k_is)
    (case e418 => k_is)
    (case e419 => k_is)
    (case e420 => k_is)
    (case e421 => kernel_rfl)
    (case e422 => k_is)
    (case e423 => kernel_rfl)
    (case e424 => k_is)
    (case e425 => k_is)
    (case e426 => k_is)
    (case e427 => exact rfl)
    (case e428 => k_is)
    (case e429 => k_is)
    (case a431 => k_is)
    (case e434 => k_is)
    (case e435 => kernel_rfl)
    (case e436 => k_is)
    (case e437 => k_is)
    (case e438 => k_is)
    (case e439 => k_is)
    (case e440 => k_is)
    (case e441 => k_is)
    (case e442 => k_is)
    (case e443 => k_is)
    (case e444 => k_is)
    (case e445 => k_is)
    (case e446 => kernel_rfl)
    (case e447 => k_is)
    (case e448 => kernel_rfl)
    (case e449 => k_is)
    (case e450 => k_is)
    (case e451 => k_is)
    (case e452 => exact rfl)
    (case e453 => k_is)
    (case e454 => k_is)
    (case e455 => k_is)
    (case a457 => k_is)
    (case e460 => k_is)
    (case e461 => kernel_rfl)
    (case e462 => k_is)
    (case e463 => k_is)
    (case e464 => k_is)
    (case e465 => k_is)
    (case e466 => k_is)
    (case e467 => k_is)
    (case e468 => k_is)
    (case e469 => k_is)
    (case e470 => k_is)
    (case e471 => k_is)
    (case e472 => kernel_rfl)
    (case e473 => k_is)
    (case e474 => kernel_rfl)
    (case e475 => k_is)
    (case e476 => k_is)
    (case e477 => k_is)
    (case e478 => exact rfl)
    (case e479 => k_is)
    (case e480 => k_is)
    (case a482 => k_is)
    (case e485 => k_is)
    (case e486 => kernel_rfl)
    (case e487 => k_is)
    (case e488 => k_is)
    (case e489 => k_is)
    (case e490 => k_is)
    (case e491 => k_is)
    (case e492 => k_is)
    (case e493 => k_is)
    (case e494 => k_is)
    (case e495 => k_is)
    (case e496 => k_is)
    (case e497 => kernel_rfl)
    (case e498 => k_is)
    (case e499 => kernel_rfl)
    (case e500 => k_is)
    (case e501 => k_is)
    (case e502 => k_is)
    (case e503 => exact rfl)
    (case e504 => k_is)
    (case e505 => k_is)
    (case e506 => k_is)
    (case a508 => k_is)
    (case e511 => k_is)
    (case e512 => kernel_rfl)
    (case e513 => k_is)
    (case e514 => k_is)
    (case e515 => k_is)
    (case e516 => k_is)
    (case e517 => k_is)
    (case e518 => k_is)
    (case e519 => k_is)
    (case e520 => k_is)
    (case e521 => k_is)
    (case e522 => k_is)
    (case e523 => kernel_rfl)
    (case e524 => k_is)
    (case e525 => kernel_rfl)
    (case e526 => k_is)
    (case e527 => k_is)
    (case e528 => k_is)
    (case e529 => exact rfl)
    (case e530 => k_is)
    (case e531 => k_is)
    (case a533 => k_is)
    (case e536 => k_is)
    (case e537 => kernel_rfl)
    (case e538 => k_is)
    (case e539 => k_is)
    (case e540 => k_is)
    (case e541 => k_is)
    (case e542 => k_is)
    (case e543 => k_is)
    (case e544 => k_is)
    (case e545 => k_is)
    (case e546 => k_is)
    (case e547 => k_is)
    (case e548 => kernel_rfl)
    (case e549 => k_is)
    (case e550 => kernel_rfl)
    (case e551 => k_is)
    (case e552 => k_is)
    (case e553 => k_is)
    (case e554 => exact rfl)
    (case e555 => k_is)
    (case e556 => k_is)
    (case a558 => k_is)
    (case e561 => k_is)
    (case e562 => kernel_rfl)
    (case e563 => k_is)
    (case e564 => k_is)
    (case e565 => k_is)
    (case e566 => k_is)
    (case e567 => k_is)
    (case e568 => k_is)
    (case e569 => k_is)
    (case e570 => k_is)
    (case e571 => k_is)
    (case e572 => k_is)
    (case e573 => kernel_rfl)
    (case e574 => k_is)
    (case e575 => kernel_rfl)
    (case e576 => k_is)
    (case e577 => k_is)
    (case e578 => k_is)
    (case e579 => exact rfl)
    (case e580 => k_is)
    (case e581 => k_is)
    (case a583 => k_is)
    (case e586 => k_is)
    (case e587 => kernel_rfl)
    (case e588 => k_is)
    (case e589 => k_is)
    (case e590 => k_is)
    (case e591 => k_is)
    (case e592 => k_is)
    (case e593 => k_is)
    (case e594 => k_is)
    (case e595 => k_is)
    (case e596 => k_is)
    (case e597 => k_is)
    (case e598 => kernel_rfl)
    (case e599 => k_is)
    (case e600 => kernel_rfl)
    (case e601 => k_is)
    (case e602 => k_is)
    (case e603 => k_is)
    (case e604 => exact rfl)
    (case e605 => k_is)
    (case e606 => k_is)
    (case a608 => k_is)
    (case e611 => k_is)
    (case e612 => kernel_rfl)
    (case e613 => k_is)
    (case e614 => k_is)
    (case e615 => k_is)
    (case e616 => k_is)
    (case e617 => k_is)
    (case e618 => k_is)
    (case e619 => k_is)
    (case e620 => k_is)
    (case e621 => k_is)
    (case e622 => k_is)
    (case e623 => kernel_rfl)
    (case e624 => k_is)
    (case e625 => kernel_rfl)
    (case e626 => k_is)
    (case e627 => k_is)
    (case e628 => k_is)
    (case e629 => exact rfl)
    (case e630 => k_is)
    (case e631 => k_is)
    (case e632 => k_is)
    (case z633 => kernel_rfl)
    (case z634 => kernel_rfl)
    (case z635 => kernel_rfl)
    (case z636 => k_is)
    (case z637 => k_is)
    (case a639 => k_is)
    (case l640 => k_is)
    (case c640 => k_is)
    (case k640 => k_is)
    (case a642 => k_is)
    (case l643 => k_is)
    (case c643 => k_is)
    (case k643 => k_is)
    (case a645 => k_is)
    (case l646 => k_is)
    (case c646 => k_is)
    (case k646 => k_is)
    (case a648 => k_is)
    (case l649 => k_is)
    (case c649 => k_is)
    (case k649 => k_is)
    (case a651 => k_is)
    (case l652 => k_is)
    (case c652 => k_is)
    (case k652 => k_is)
    (case a654 => k_is)
    (case l655 => k_is)
    (case c655 => k_is)
    (case k655 => k_is)
    (case a657 => k_is)
    (case l658 => k_is)
    (case c658 => k_is)
    (case k658 => k_is)
    (case a660 => k_is)
    (case l661 => k_is)
    (case c661 => k_is)
    (case k661 => k_is)
    (case l662 => k_is)
    (case c662 => k_is)
    (case k662 => k_is)
    (case z663 => k_is)
    (case z664 => k_is)
    (case z665 => k_is)
    (case z666 => k_is)
    (case z667 => k_is)
    (case z668 => k_is)
    (case z669 => k_is)
    (case z670 => k_is)
    (case z671 => k_is)
    (case z672 => k_is)
#print axioms PySem.Challenge.cw_innercommits_k88_errors_made_by_hand_holds
