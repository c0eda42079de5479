import PyProof.Rows.All
import Wide.All
import OpenK.AllK
import Wide.FinOn
import HandS.ForMost
import HandS.EndBits
import HandS.Wide
import HandS.IsInst
import HandS.Style
import HandS.Walk
import HandS.ClsMeth
import HandS.Conv
import HandS.ForExc
import HandS.ExcInit
import HandS.CallSlots
import HandS.Defaults
import HandS.ExcField
import HandS.Property
import HandS.WordsExc
import HandS.TryMany
import KE.KExcSuper
import HandS.HotCalls
import HandS.Dict
import HandS.Set
import HandS.SetBool
import HandS.SetFor
import HandS.Strs
import HandS.More
import PyProof.Rows.SortShellAny
import PyProof.Rows.SetFrom
import PyProof.Rows.SetObj
import HandS.TryOnly
import PySem.Challenge.RW_innercommits_k07_held_records_and_waits

set_option Elab.async false
set_option linter.all false
set_option maxRecDepth 100000
set_option maxHeartbeats 4000000
namespace Ic
open PySem L2
def top (i : Nat) : Stmt := PySem.Challenge.pw_innercommits_k07_held_records_and_waits.main.body.getD i (.Pass ⟨0, 0, 0, 0⟩)
abbrev P : Program := PySem.Challenge.pw_innercommits_k07_held_records_and_waits
/-! ### heaps -/
theorem sz_le {n m : Nat} (h : Nat.ble n m = true) : n ≤ m := Nat.le_of_ble_eq_true h
theorem sz_lt {n m : Nat} (h : Nat.blt n m = true) : n < m := Nat.le_of_ble_eq_true h
theorem upd_old {H : Hp} {p a : Addr} {o u : HO} (h : H a = some u) (hp : H p = none) : upd H p o a = some u := by
  rw [upd_ne (ne_of_none h hp)]; exact h
theorem upd_oth {H : Hp} {p a : Addr} {o u : HO} (hn : a ≠ p) (h : H a = some u) : upd H p o a = some u := by
  rw [upd_ne hn]; exact h
theorem cmul_l {i j : Int} (h : (decide (-(2 ^ 64) < i) && decide (i < 2 ^ 64)) = true) : CMul i j := by
  simp only [Bool.and_eq_true, decide_eq_true_eq] at h
  exact .inl h
theorem cmul_r {i j : Int} (h : (decide (-(2 ^ 64) < j) && decide (j < 2 ^ 64)) = true) : CMul i j := by
  simp only [Bool.and_eq_true, decide_eq_true_eq] at h
  exact .inr h
theorem cpow_lit {i j : Int} (h : (decide (0 ≤ j) && decide (j ≤ 1000000) && decide (i.natAbs < 2 ^ 64)) = true) : CPow i j := by
  simp only [Bool.and_eq_true, decide_eq_true_eq] at h
  exact ⟨h.1.1, h.1.2, h.2⟩
theorem cdiv_lit {i j : Int} (h : (decide (0 < j) && decide (j < 1073741824)) = true) : CDivW i j := by
  simp only [Bool.and_eq_true, decide_eq_true_eq] at h
  exact wide_div (b := 40) h.1 (by omega) (by decide) (by decide)
theorem none_upd {H : Hp} {p b : Addr} {o : HO} (h : upd H p o b = none) : b ≠ p ∧ H b = none := by
  by_cases e : b = p
  · rw [e, upd_same] at h; cases h
  · exact ⟨e, by rw [upd_ne e] at h; exact h⟩
/-- all that was tracked, but S, is as it was -/
def Kp (S : Addr → Prop) (H H' : Hp) : Prop := ∀ b u, H b = some u → ¬ S b → H' b = some u
theorem Kp.refl {S : Addr → Prop} {H : Hp} : Kp S H H := fun _ _ h _ => h
theorem Kp.trans {S : Addr → Prop} {H H1 H2 : Hp} (a : Kp S H H1) (b : Kp S H1 H2) : Kp S H H2 := fun c u h n => b c u (a c u h n) n
theorem Kp.new {S : Addr → Prop} {H H1 : Hp} {p : Addr} {o : HO} (a : Kp S H H1) (h : H1 p = none) : Kp S H (upd H1 p o) := fun c u e n => upd_old (a c u e n) h
theorem Kp.set {S : Addr → Prop} {H H1 : Hp} {p : Addr} {o : HO} (a : Kp S H H1) (h : S p) : Kp S H (upd H1 p o) := fun c u e n => upd_oth (fun z => n (z ▸ h)) (a c u e n)
theorem Kp.set1 {H H1 : Hp} {p : Addr} {o : HO} (a : Kp (fun b => b = p) H H1) : Kp (fun b => b = p) H (upd H1 p o) := a.set rfl
/-- p is none of H's -/
theorem Kp.fresh {S : Addr → Prop} {H H1 : Hp} {p : Addr} {o : HO} (a : Kp S H H1) (h : H p = none) : Kp S H (upd H1 p o) := fun c u e n => upd_oth (ne_of_none e h) (a c u e n)
theorem Kp.mono {S S' : Addr → Prop} {H H1 : Hp} (a : Kp S H H1) (h : ∀ b, S b → S' b) : Kp S' H H1 := fun c u e n => a c u e fun z => n (h c z)
theorem Kp.same {S : Addr → Prop} {H H1 H2 : Hp} (a : Same H H1) (b : Kp S H1 H2) (n : ∀ c, S c → H c = none) : Same H H2 := fun c u h => b c u (a c u h) fun z => by
  rw [n c z] at h; cases h
theorem Kp.of_same {S : Addr → Prop} {H H1 : Hp} (a : Same H H1) : Kp S H H1 := fun c u h _ => a c u h
theorem _root_.L2.Same.new {H H1 : Hp} {p : Addr} {o : HO} (a : Same H H1) (h : H1 p = none) : Same H (upd H1 p o) := fun c u e => upd_old (a c u e) h
theorem _root_.L2.Same.frsh {H H1 : Hp} {p : Addr} {o : HO} (a : Same H H1) (h : H p = none) : Same H (upd H1 p o) := fun c u e => upd_oth (ne_of_none e h) (a c u e)
theorem tyV_lst {K : PySem.W.Frag} {H : Hp} {p : Addr} {xs : List V} (h : SqL K H p xs) : tyV K "list" (.ref p) H := .inl ⟨rfl, xs, h⟩
class RdTy (α : Type) : Prop
instance : RdTy V := ⟨⟩
instance : RdTy Int := ⟨⟩
instance : RdTy Nat := ⟨⟩
instance : RdTy Bool := ⟨⟩
instance : RdTy Str := ⟨⟩
instance : RdTy HO := ⟨⟩
instance : RdTy Value := ⟨⟩
instance : RdTy Obj := ⟨⟩
instance {α : Type} : RdTy (List α) := ⟨⟩
instance {α : Type} : RdTy (Array α) := ⟨⟩
instance {α β : Type} : RdTy (Sum α β) := ⟨⟩
theorem exI {α : Type} [RdTy α] {p : α → Prop} (w : α) (h : p w) : Exists p := ⟨w, h⟩
/-! ### the pool -/
def PoolO (o : HO) (c : Nat) : Prop := ∃ a b n : Int, o = .lst [.int a, .int b, .int n] ∧ 0 ≤ a ∧ 0 ≤ b ∧ b < 2 ^ 62 ∧ 0 ≤ n ∧ n ≤ c
def PoolAt (H : Hp) (p : Addr) (c : Nat) : Prop := ∃ o, H p = some o ∧ PoolO o c
theorem PoolO.mono {o : HO} {c d : Nat} (h : PoolO o c) (l : c ≤ d) : PoolO o d := by
  obtain ⟨a, b, n, e, h1, h2, h3, h4, h5⟩ := h
  exact ⟨a, b, n, e, h1, h2, h3, h4, by omega⟩
def spPool (K : PySem.W.Frag) : Sp := fun vs H Q _ => ∃ (a : Addr) (ns : List Int) (i : Nat), vs = [.ref a, .int (i : Int)] ∧ SqL K H a (ns.map V.int) ∧ i < 1000 ∧
  ∀ p o, H p = none → PoolO o 0 → Q (.ref p) (upd H p o)
def spDraw : Sp := fun vs H Q _ => ∃ (p : Addr) (m : Int) (c : Nat) (o : HO), vs = [.ref p, .int m] ∧ H p = some o ∧ PoolO o c ∧ 0 < m ∧ m < 2 ^ 200 ∧ c < 2 ^ 40 ∧
  ∀ r o', 0 ≤ r → r < m → PoolO o' (c + 1) → Q (.int r) (upd H p o')
local macro_rules | `(tactic| walk_at "hp") => `(tactic| first | with_reducible assumption | with_reducible exact upd_same | (with_reducible apply upd_old; (focus (walk_at "hp")); (focus with_reducible assumption)) | (with_reducible apply upd_oth; (focus (first | with_reducible assumption | (with_reducible apply Ne.symm; with_reducible assumption))); walk_at "hp"))
local macro_rules | `(tactic| walk_at "sq") => `(tactic| first | with_reducible assumption | (with_reducible apply SqL.of; walk_at "hp") | (with_reducible apply SqT.of; walk_at "hp"))
local macro_rules | `(tactic| walk_at "side") => `(tactic| first | with_reducible assumption | exact ⟨_, rfl⟩ | walk_at "hp" | walk_at "sq" | (with_reducible apply tyV_lst; walk_at "sq") | (with_reducible apply Or.inl; walk_at "sq") | (with_reducible apply Or.inr; walk_at "sq") | with_reducible exact cmul_l (by decide) | with_reducible exact cmul_r (by decide) | with_reducible exact cpow_lit (by decide) | with_reducible exact cdiv_lit (by decide) | decide | exact sz_le rfl | exact sz_lt rfl | omega)
local macro_rules | `(tactic| walk_at "kp") => `(tactic| first | with_reducible assumption | with_reducible exact Kp.refl | (with_reducible apply Kp.set1; walk_at "kp") | (with_reducible apply Kp.new; (focus (walk_at "kp")); (focus with_reducible assumption)) | (with_reducible apply Kp.fresh; (focus (walk_at "kp")); (focus with_reducible assumption)))
local macro_rules | `(tactic| walk_at "rd1") => `(tactic| first
  | refine And.intro rfl ?_
  | apply exI
  | (refine Or.inl ?_; apply exI; refine And.intro rfl ?_)
  | (refine Or.inr ?_; apply exI; refine And.intro rfl ?_)
  | (refine And.intro ?_ ?_; (focus (walk_at "side"))))
local macro_rules | `(tactic| walk_at "rd") => `(tactic| repeat (walk_at "rd1"))
/-! ### further rules: a staticmethod called off its class, list of a text -/
/-- C.m is a staticmethod: its record at p, its def at f -/
structure SMet (K : PySem.W.Frag) (C : Addr) (mc : Value) (m : Str) (p f : Addr) : Prop where
  at_ : PySem.W.findCls K (.ref C) mc m = some (.get (.builtin "staticmethod.__get__") (.ref p) .none (.ref C))
  rc : ∃ rest, PySem.W.recIn K p "staticmethod" = some (.ref f :: rest)
def tSMeth (C : Addr) (sp : Sp) (dvs : List V) (E : XK) (ta : TE) (t : TA) : TE := fun σ H Q => ta σ H fun x H1 => x = .ref C ∧ t σ H1 fun vs H2 => sp (vs ++ dvs) H2 Q E
theorem pe_smeth {X : Cx} {CX : CXT} {k : Nat} {C p f : Addr} {fd : FuncData} {ps : List Str} {ds : List Value} {dvs : List V} {mc : Value} {sp : Sp} {E : XK} {o e : Expr} {es : List Expr} {m : Str} {pos apos : Pos} {ta : TE} {t : TA} {pl : Sem Bool}
    (he : PE X o ta) (r : ClX.CRead X.K C mc) (c : SMet X.K C mc m p f) (F : FnOk X.prog X.w X.K X.mg X.base CX k f fd ps sp) (hr : Room k X.A) (hk : PySem.W.keepIn X.K (.ref f) = true) (hb : Binds X.K fd ps ds) (hd : Vals dvs ds) (hx : Passes CX X E) (ha : PA X (e :: es) t)
    (hst : starEach (e :: es) X.env = (false, eval e X.env) :: starEach es X.env := by rfl) (hpl : (backTo pos (starEach es X.env)).any (·.1) = false := by rfl)
    (ht : eval (.Call (.Attribute o m apos) (e :: es) [] pos) X.env = (do
      let ov ← eval o X.env
      standAt apos.atName
      let (f, first) ← holding [ov] (getMethod ov m pl)
      callWith pos f first (backTo pos (starEach (e :: es) X.env)) (backToKw pos (keywordEach [] X.env))) := by rfl) :
    PE X (.Call (.Attribute o m apos) (e :: es) [] pos) (tSMeth C sp dvs E ta t) := by
  refine ⟨fun pins s σ H Q I h => ?_⟩
  refine PySem.W.methodCall_KW (pl := pl) (thn (he.run pins s σ H _ I h) fun u s1 ⟨x, H1, I1, rx, ex, q⟩ => ?_) ht
  subst ex
  obtain rfl : u = Value.ref C := rx
  obtain ⟨rest, hp⟩ := c.rc
  refine PySem.W.method_cls I1.kIn r.ga (PySem.W.cls_bind I1.kIn r.rd c.at_ ?_)
  refine wpAny_call (PySem.W.sm_get (s := { s1 with toks := s1.toks + 1 }) I1.kIn hp (PySem.W.handed_on rfl ?_))
  have I2 := I1.tok (s1.toks + 1)
  refine PySem.W.callWith_K (h₀ := X.base) (first := []) I2.ok.mod.kin hk (thn (ha.run pos pins _ σ H1 _ I2 q) fun us s3 ⟨vs, H2, I3, rv, q2⟩ => ⟨I3.kIn, ?_⟩) hst hpl
  exact run_fn F hr hb hd hx I3 rv q2
theorem call_list_text {X : Cx} (hc : X.calm = true) : CallR X (.type "list") (fun xs H Q => ∃ z : Str, xs = [.str z] ∧ z.length ≤ sizeLine ∧ ∀ l, H l = none → Q (.ref l) (upd H l (.lst (z.cps.toList.map fun c => .str ⟨#[c]⟩)))) := by
  intro pins s σ H xs us Q I r h
  obtain ⟨z, rfl, hz, q⟩ := h
  obtain ⟨u, rfl, t, rfl⟩ := vals1 r
  refine call_list_str (I.ok.hd hc) z t (fun h' tk acc c' kp e it => ?_) hz
  have hv : Vals (z.cps.toList.map fun c => V.str ⟨#[c]⟩) acc.toList := by
    refine vals_of_at (by rw [List.length_map, Array.length_toList, Array.length_toList, it.1]) fun j x u e1 e2 => ?_
    rw [Array.getElem?_toList] at e2
    obtain ⟨c, tk, hc1, rfl⟩ := it.2 j u e2
    rw [List.getElem?_map, Array.getElem?_toList, hc1] at e1
    cases e1
    exact ⟨tk, rfl⟩
  refine ⟨.ref s.heap.objs.size, _, I.laid (o := .lst (z.cps.toList.map fun c => V.str ⟨#[c]⟩)) (t' := tk) kp (Nat.le_refl _) ?_, rfl, q _ (I.hok.fresh (Nat.le_refl _))⟩
  exact ⟨by rw [List.length_map, Array.length_toList]; exact hz, acc.toList, c', hv, by simpa using e⟩
/-! ### data: == of lists and tuples -/
theorem eqvAll_nil {ds : List PyData} : PyData.eqvAll ds [] = ds.isEmpty := by
  cases ds <;> rfl
def asc (z : Str) : Prop := ∀ c ∈ z.cps.toList, c < 128
theorem asc_ok {z : Str} (h : asc z) : PyData.strOk z = true := by
  unfold PyData.strOk
  rw [Array.all_eq_true]
  intro i hi
  have := h z.cps[i] (by rw [Array.mem_toList_iff]; exact Array.getElem_mem hi)
  simp; omega
theorem dp_strs {K : PySem.W.Frag} {H : Hp} : ∀ ys : List Str, DpAll K H (ys.map V.str) (ys.map PyData.str)
  | [] => .nil
  | y :: r => .cons (.str y) (dp_strs r)
theorem lay_strs : ∀ {ys : List Str}, (∀ y ∈ ys, asc y) → PyData.canLayAll0 (ys.map PyData.str) = true
  | [], _ => rfl
  | y :: r, h => by
    show (PyData.strOk y && PyData.canLayAll0 (r.map PyData.str)) = true
    rw [asc_ok (h y List.mem_cons_self), lay_strs fun z hz => h z (List.mem_cons_of_mem _ hz)]; rfl
theorem depth_strs : ∀ ys : List Str, PyData.depthAll (ys.map PyData.str) = 0
  | [] => rfl
  | y :: r => by
    show max 0 (PyData.depthAll (r.map PyData.str)) = 0
    rw [depth_strs r]; rfl
theorem shaped_strs {ys : List Str} (h : ∀ y ∈ ys, asc y) : SeqAt.shaped (.list (ys.map PyData.str)) = true := by
  show (PyData.canLayAll0 (ys.map PyData.str) && decide (PyData.depthAll (ys.map PyData.str) + 1 ≤ 64)) = true
  rw [lay_strs h, depth_strs]; rfl
/-! ### letters -/
def Lets (cs : List Nat) : Prop := ∀ c ∈ cs, 97 ≤ c ∧ c ≤ 122
def chr1 (c : Nat) : Str := ⟨#[c]⟩
structure IsWord (w : Str) : Prop where
  lo : 1 ≤ w.cps.toList.length
  hi : w.cps.toList.length ≤ 8
  al : Lets w.cps.toList
def alpha : Str := "abcdefghijklmnopqrstuvwxyz"
theorem alpha_all : ∀ n : Nat, n < 26 → alpha.cps.toList[n]? = some (97 + n) := by
  have h : (List.range 26).all (fun n => decide (alpha.cps.toList[n]? = some (97 + n))) = true := by decide +kernel
  intro n hn
  exact of_decide_eq_true (List.all_eq_true.mp h n (List.mem_range.mpr hn))
theorem alpha_at {r : Int} (h0 : 0 ≤ r) (h1 : r < 26) : atI alpha.cps.toList r = some (97 + r.toNat) := by
  have e : ((r.toNat : Nat) : Int) = r := by omega
  have h := atI_nat (alpha_all r.toNat (by omega))
  rw [e] at h
  exact h
theorem join_chr : ∀ cs : List Nat, Txt.join (Str.ofString "") (cs.map chr1) = ⟨cs.toArray⟩ := by
  intro cs
  show Builtin.Str.glued (Str.ofString "") (cs.map chr1) = _
  rw [StrLaws.glued_eq_join]
  have e0 : (Str.ofString "") = Str.empty := by decide +kernel
  rw [e0]
  induction cs with
  | nil => rfl
  | cons c r ih =>
    cases r with
    | nil => rfl
    | cons b r =>
      show chr1 c ++ Str.empty ++ Str.join Str.empty ((b :: r).map chr1) = _
      rw [ih]
      show (⟨(#[c] ++ #[]) ++ (b :: r).toArray⟩ : Str) = ⟨(c :: b :: r).toArray⟩
      simp
theorem sum_chr : ∀ cs : List Nat, ((cs.map chr1).map (·.length)).sum = cs.length
  | [] => rfl
  | c :: r => by
    show 1 + ((r.map chr1).map (·.length)).sum = r.length + 1
    rw [sum_chr r]; omega
theorem alpha_len : alpha.length ≤ sizeLine := by decide +kernel
/-- [letters[draw(pool, 26)] for k in range(n)] -/
theorem lc_letters {n i0 i1 ik : Nat} {σ : St} {H1 : Hp} {D p : Addr} {o : HO} {c : Nat} {Qd : Hp → Prop} (hD : H1 D = none) (hp : H1 p = some o) (hc : PoolO o c) (hb : c + n < 2 ^ 40) (hn : n < 1000000)
    (s0 : σ[i0]? = some (some (.ref p))) (s1 : σ[i1]? = some (some (.str alpha))) (n0 : i0 ≠ ik) (n1 : i1 ≠ ik)
    (q : ∀ H' cs o', cs.length = n → Lets cs → Kp (fun b => b = p) H1 H' → H' p = some o' → PoolO o' (c + n) → H' D = some (.lst ((cs.map chr1).map V.str)) → Qd H') :
    ∃ W : Nat → Nat → Hp → Prop, (∃ m, W 0 m (upd H1 D (.lst []))) ∧ ∀ i m H, W i m H →
      ((Itr 0 n).stop i H ∧ Qd H) ∨ ((Itr 0 n).go i H ∧ ∃ Nx : Hp → Prop, (∀ H', Nx H' → ∃ m', m' < m ∧ W (i + 1) m' H') ∧ ∀ x H', (Itr 0 n).yld i H x H' → gName ik x (wipe σ [ik]) H' fun σ2 H2 => wipe σ2 [ik] = wipe σ [ik] ∧ tYes σ2 H2 fun b H3 =>
        if b = true then tOp rIxS (tVar i1) (tCall spDraw [] E0 (tCons (tVar i0) (tCons (tC (.int 26)) tNil))) σ2 H3 fun y H4 => ∃ acc, H4 D = some (.lst acc) ∧ acc.length < sizeLine ∧ Nx (upd H4 D (.lst (acc ++ [y]))) else Nx H3) := by
  have npD : p ≠ D := ne_of_none hp hD
  have w0 : ∀ v, ((wipe σ [ik]).set ik (some v))[i0]? = some (some (.ref p)) := fun v => by
    rw [List.getElem?_set_ne (Ne.symm n0), wipe_out (by simp [n0])]; exact s0
  have w1 : ∀ v, ((wipe σ [ik]).set ik (some v))[i1]? = some (some (.str alpha)) := fun v => by
    rw [List.getElem?_set_ne (Ne.symm n1), wipe_out (by simp [n1])]; exact s1
  refine lc_range (fun i H => ∃ cs o', cs.length = i ∧ Lets cs ∧ Kp (fun b => b = p) H1 H ∧ H p = some o' ∧ PoolO o' (c + i) ∧ H D = some (.lst ((cs.map chr1).map V.str))) ?_ ?_ ?_
  · exact ⟨[], o, rfl, (fun _ h => nomatch h), Kp.refl.new hD, upd_old hp hD, hc, upd_same⟩
  · rintro i H hi ⟨cs, o', e1, e2, e3, e4, e5, e6⟩
    refine ⟨?_, ?_⟩
    · show wipe ((wipe σ [ik]).set ik _) [ik] = wipe σ [ik]
      show (((σ.set ik none).set ik _).set ik none) = σ.set ik none
      rw [List.set_set, List.set_set]
    · refine ⟨_, w1 _, _, w0 _, p, 26, c + i, o', rfl, e4, e5, by decide, by decide, by omega, fun r o2 r0 r1 h2 => ?_⟩
      refine ⟨alpha, r, _, rfl, rfl, alpha_len, alpha_at r0 r1, (cs.map chr1).map V.str, upd_oth (Ne.symm npD) e6, ?_, ?_⟩
      · rw [List.length_map, List.length_map, e1, sizeLine_eq]; omega
      · refine ⟨cs ++ [97 + r.toNat], o2, ?_, ?_, ?_, ?_, h2, ?_⟩
        · rw [List.length_append, e1]; rfl
        · intro x hx
          rcases List.mem_append.mp hx with h | h
          · exact e2 x h
          · rw [List.mem_singleton] at h
            subst h
            omega
        · exact (e3.set rfl).fresh hD
        · exact upd_oth npD upd_same
        · rw [upd_same, List.map_append, List.map_append]; rfl
  · rintro H ⟨cs, o', e1, e2, e3, e4, e5, e6⟩
    exact q H cs o' e1 e2 e3 e4 e5 e6
def spWord : Sp := fun vs H Q _ => ∃ (p : Addr) (c : Nat) (o : HO), vs = [.ref p] ∧ H p = some o ∧ PoolO o c ∧ c < 2 ^ 39 ∧
  ∀ w o' H', IsWord w → PoolO o' (c + 9) → H' p = some o' → Kp (fun b => b = p) H H' → Q (.str w) H'
/-! ### words -/
def okC (c : Nat) : Bool := decide (97 ≤ c) && decide (c ≤ 122)
def wordS (z : Str) : Bool := decide (1 ≤ z.length) && decide (z.length ≤ 8) && z.cps.toList.all okC
def wordB : V → Bool
  | .str z => wordS z
  | _ => false
inductive Thing (H : Hp) : V → Prop
  | str (z : Str) (h : z.length ≤ 1000) (ha : asc z) : Thing H (.str z)
  | int (i : Int) : Thing H (.int i)
  | bl (b : Bool) : Thing H (.bl b)
  | non : Thing H .non
  | lst {p : Addr} {xs : List V} (h : H p = some (.lst xs)) : Thing H (.ref p)
  | tup {p : Addr} {xs : List V} (h : H p = some (.tup xs)) : Thing H (.ref p)
theorem Thing.same {H H' : Hp} {v : V} (s : Same H H') (t : Thing H v) : Thing H' v := by
  cases t with
  | str z h ha => exact .str z h ha
  | int i => exact .int i
  | bl b => exact .bl b
  | non => exact .non
  | lst h => exact .lst (s _ _ h)
  | tup h => exact .tup (s _ _ h)
def strB : V → Bool
  | .str _ => true
  | _ => false
theorem Thing.isi {K : PySem.W.Frag} {H : Hp} {v : V} (t : Thing H v) : ∃ ty, TyX K H v ty ∧ PySem.W.kitOne K ty (.type "str") = some (strB v) := by
  cases t with
  | str z h ha => exact ⟨_, .base (.str z), kit_ty (show kitB "str" "str" = some true by decide +kernel)⟩
  | int i => exact ⟨_, .base (.int i), kit_ty (show kitB "int" "str" = some false by decide +kernel)⟩
  | bl b => exact ⟨_, .base (.bl b), kit_ty (show kitB "bool" "str" = some false by decide +kernel)⟩
  | non => exact ⟨_, .base .non, kit_ty (by decide +kernel)⟩
  | lst h => exact ⟨_, .base (.lst h), kit_ty (show kitB "list" "str" = some false by decide +kernel)⟩
  | tup h => exact ⟨_, .base (.tup h), kit_ty (show kitB "tuple" "str" = some false by decide +kernel)⟩
theorem list1_lt (a b : Nat) : ([a] : List Nat) < [b] ↔ a < b := by
  constructor
  · intro h
    cases h with
    | rel h => exact h
    | cons h => cases h
  · intro h
    exact .rel h
theorem le_a (c : Nat) : (!decide ((⟨#[c]⟩ : Str).cps.toList < (Str.ofString "a").cps.toList)) = decide (97 ≤ c) := by
  have e : (Str.ofString "a").cps.toList = [97] := by decide +kernel
  rw [e, ← decide_not]
  apply decide_eq_decide.mpr
  show ¬ ([c] < [97]) ↔ _
  rw [list1_lt]; omega
theorem le_z (c : Nat) : (!decide ((Str.ofString "z").cps.toList < (⟨#[c]⟩ : Str).cps.toList)) = decide (c ≤ 122) := by
  have e : (Str.ofString "z").cps.toList = [122] := by decide +kernel
  rw [e, ← decide_not]
  apply decide_eq_decide.mpr
  show ¬ ([122] < [c]) ↔ _
  rw [list1_lt]; omega
theorem all_take {α : Type} {p : α → Bool} {l : List α} {i : Nat} {x : α} (h : l[i]? = some x) (a : (l.take i).all p = true) (b : p x = true) : (l.take (i + 1)).all p = true := by
  rw [List.take_add_one, h, List.all_append, a, Bool.true_and]
  show ([x] : List α).all p = true
  rw [List.all_cons, b]; rfl
theorem all_no {α : Type} {p : α → Bool} {l : List α} {i : Nat} {x : α} (h : l[i]? = some x) (b : p x = false) : l.all p = false := by
  cases e : l.all p with
  | false => rfl
  | true =>
    rw [List.all_eq_true.mp e x (List.mem_of_getElem? h)] at b
    cases b
theorem len_toList (z : Str) : z.cps.toList.length = z.length := by simp [Str.length]
theorem IsWord.ok {w : Str} (h : IsWord w) : wordS w = true := by
  unfold wordS
  rw [← len_toList, decide_eq_true h.lo, decide_eq_true h.hi, Bool.true_and, Bool.true_and, List.all_eq_true]
  intro c hc
  have := h.al c hc
  unfold okC
  rw [decide_eq_true this.1, decide_eq_true this.2]; rfl
theorem wordS_of {z : Str} (h : wordS z = true) : IsWord z := by
  unfold wordS at h
  rw [Bool.and_eq_true, Bool.and_eq_true, decide_eq_true_eq, decide_eq_true_eq, List.all_eq_true] at h
  refine ⟨by rw [len_toList]; exact h.1.1, by rw [len_toList]; exact h.1.2, fun c hc => ?_⟩
  have := h.2 c hc
  unfold okC at this
  rw [Bool.and_eq_true, decide_eq_true_eq, decide_eq_true_eq] at this
  exact this
def spIsWord : Sp := fun vs H Q _ => ∃ v, vs = [v] ∧ Thing H v ∧ Q (.bl (wordB v)) H
/-! ### own errors: an __init__ that says super().__init__(text) and stores fields -/
/-- the stores of an __init__: self.F = a parameter | a text -/
inductive Sts (ps : List Str) : List Stmt → List (Str × Sum Nat Str) → Prop
  | nil : Sts ps [] []
  | par {F p : Str} {i : Nat} {q1 q2 q3 q4 : Pos} {r : List Stmt} {fs : List (Str × Sum Nat Str)} (h : ps[i]? = some p) (t : Sts ps r fs) : Sts ps (.Assign [.Attribute (.Name "self" q1) F q2] (.Name p q3) q4 :: r) ((F, .inl i) :: fs)
  | con {F c : Str} {j : Nat} {q1 q2 q3 q4 : Pos} {r : List Stmt} {fs : List (Str × Sum Nat Str)} (t : Sts ps r fs) : Sts ps (.Assign [.Attribute (.Name "self" q1) F q2] (.Constant (.str c) j q3) q4 :: r) ((F, .inr c) :: fs)
def fldV (vs : List V) : Sum Nat Str → V
  | .inl i => vs.getD i .non
  | .inr c => .str c
def errF (vs : List V) : List (Str × Sum Nat Str) → List (Str × V) → List (Str × V)
  | [], acc => acc
  | p :: r, acc => errF vs r ((p.1, fldV vs p.2) :: acc)
/-- an exception while its __init__ runs -/
structure ErrAt (h0 h : Heap) (x C L : Addr) (m : Str → Option Value) (acc : List (Str × V)) (dd : Option Addr) : Prop where
  keep : ∀ b o, b ≠ x → h0.get? b = some o → h.get? b = some o
  sz : h0.objs.size ≤ h.objs.size
  ns : h.Ns L m
  obj : ∃ t1 : Addr, h.get? x = some ({ cls := .ref C, dict := dd, data := .fields #[.ref t1, .none, .none, .none, .bool false, .none] } : Obj)
  dct : match dd with | none => acc = [] | some dx => acc ≠ [] ∧ h0.objs.size ≤ dx ∧ dx ≠ x ∧ dx ≠ L ∧ ∃ mA, h.Ns1 dx mA ∧ ∀ f, RelO (acc.lookup f) (mA f)
theorem kept_but {K : PySem.W.Frag} {h h' : Heap} {x : Addr} (X : K.In h) (hx : K.lookup x = none) (k : ∀ b o, b ≠ x → h.get? b = some o → h'.get? b = some o) : K.In h' := fun a o e =>
  k a o (fun z => by rw [z, hx] at e; cases e) (X a o e)
/-- what the written part says of an error's class, at C; its __init__ at fI -/
structure ErrC (P : Program) (K : PySem.W.Frag) (C fI : Addr) (st : Stmt) (q : Str) (ps : List Str) (fs : List (Str × Sum Nat Str)) : Prop where
  cls : ∃ nm qn N bs bm sn sub ab col dd k0 k1 k2 k3 k5, K.lookup C = some (excClassObj nm qn C N bs bm true sn sub ab col dd k0 k1 k2 k3 k5 "ValueError.__new__") ∧ PySem.HandSPX.refsVE bm = true
  sa : PySem.W.findIn K (.ref C) "__setattr__" = some (some (.builtin "object.__setattr__"))
  ga : PySem.W.findIn K (.ref C) "__getattribute__" = some (some (.builtin "BaseException.__getattribute__"))
  gg : PySem.W.findIn K (.ref C) "__getattr__" = some none
  noF : ∀ p ∈ fs, PySem.W.findIn K (.ref C) p.1 = some none
  iC : PySem.W.findIn K (.ref C) "__init__" = some (some (.ref fI))
  tC : PySem.W.typeIn K (.ref fI) = some (.type "function")
  kC : PySem.W.keepIn K (.ref C) = true
  exC : PySem.W.subIn K (.ref C) (.type "BaseException") = some true
  veC : PySem.W.subIn K (.ref C) (.type "ValueError") = some true
  tyC : PySem.W.typeIn K (.ref C) = some (.type "type")
  hdC : PySem.W.hasDictIn K C = true
  su : PySem.W.ks_superIn K C C "__init__" = some (some (.builtin "ValueError.__init__"))
  mro : PySem.W.mroIn K C (.ref C) = some true
  te : PySem.W.exmOne K (.ref C) (.ref C) = some true
  op : PySem.W.nsIn K cStatics "thirdparty.any" = some none
  fn : ∃ (oc : Value) (od : Option Addr) (doc pm : Value) (an : Option Addr) (cda cc : Addr) (ct : Value) (osl : Array (Option Value)) (ccl : Value) (cdd : Option Addr) (vs : Array Value) (ccs : Array (Option Value)) (tf : Tok) (cl : Value) (cld : Option Addr) (csl : Array (Option Value)),
    K.lookup fI = some ⟨oc, od, .func (PySem.W.ksFn "__init__" q (defArgs st) (defBody st) (defScope st) .none .none doc pm an (.ref cda) ct cc), osl⟩ ∧ PySem.W.codeIn K (.ref cda) q = true ∧
    K.lookup cda = some ⟨ccl, cdd, .fields vs, ccs⟩ ∧ vs[2]? = some (.str P.main.file tf) ∧ K.lookup cc = some ⟨cl, cld, .cell (some (.ref C)), csl⟩
  hd : ∃ ar : Arg, ((defArgs st).posonlyargs ++ (defArgs st).args).head? = some ar ∧ ar.arg = "self"
  bd : ∀ (doc pm : Value) (an : Option Addr) (cda cc : Addr) (ct : Value) (us : List Value), us.length = ps.length + 1 → bindArgs (PySem.W.ksFn "__init__" q (defArgs st) (defBody st) (defScope st) .none .none doc pm an (.ref cda) ct cc) ⟨us, []⟩ = pure ((("self" : Str) :: ps).zip us)
  bo : ∃ (p0 p1 p2 p3 p4 p5 : Pos) (j : Nat) (msg : Str) (sts : List Stmt), defBody st = .Expr (.Call (.Attribute (.Call (.Name "super" p0) [] [] p1) "__init__" p2) [.Constant (.str msg) j p3] [] p4) p5 :: sts ∧ Sts ps sts fs ∧
    ∀ (L cda cc : Addr), ∃ pl : Sem Bool, eval (.Call (.Attribute (.Call (.Name "super" p0) [] [] p1) "__init__" p2) [.Constant (.str msg) j p3] [] p4) (PySem.W.ksEnv q (defScope st) L fI (.ref cda) cc) = (do
      let ov ← attributeBase (.Call (.Name "super" p0) [] [] p1) "__init__" (PySem.W.ksEnv q (defScope st) L fI (.ref cda) cc) (eval (.Call (.Name "super" p0) [] [] p1) (PySem.W.ksEnv q (defScope st) L fI (.ref cda) cc))
      standAt p2.atName
      let (f, first) ← holding [ov] (getMethod ov "__init__" pl)
      callWith p4 f first (backTo p4 (starEach [.Constant (.str msg) j p3] (PySem.W.ksEnv q (defScope st) L fI (.ref cda) cc))) [])
  sck : (defScope st).kind = .function
  scc : (defScope st).isCoroutine = false
  scg : (defScope st).isGenerator = false
  scn : ∀ x ∈ (defScope st).names, x.2 ≠ .cell
  scl : ∀ x ∈ (("self" : Str) :: ps), (defScope st).names.lookup x = some .local
  scs : (defScope st).names.lookup ("super" : Str) = some .globalImplicit
  scf : (defScope st).names.lookup ("__class__" : Str) = some .free
  nd : (("self" : Str) :: ps).Nodup
  top : (P.main.scope.names.lookup ("super" : Str)).isSome = false
section
open PySem PySem.W PySem.Calls PyProof.Rows PySem.HandSPX
variable {prog : Program} {w : World} {A : Around} {K : PySem.W.Frag} {C fI : Addr} {st : Stmt} {q : Str} {ps : List Str} {fs : List (Str × Sum Nat Str)}
theorem err_stores (T : ErrC prog K C fI st q ps fs) {h0 : Heap} {x L : Addr} {m : Str → Option Value} {vs : List V} {env : Env} {E : Value → Shared → Prop} (X0 : K.In h0) (hnx : K.lookup x = none) (hLx : L ≠ x)
    (hself : m "self" = some (.ref x)) (hpar : ∀ (i : Nat) p, ps[i]? = some p → ∃ v u, vs[i]? = some v ∧ RelV v u ∧ m p = some u)
    (hk : env.scope.kind = .function) (hlo : env.locals = L) (hkl : ∀ y ∈ (("self" : Str) :: ps), env.kindOf y = some .local) (hdb : ∀ y ∈ (("self" : Str) :: ps), (y == ("__debug__" : Str)) = false) :
    ∀ {sts : List Stmt} {fs' : List (Str × Sum Nat Str)}, Sts ps sts fs' → (∀ p ∈ fs', p ∈ fs) → ∀ {acc : List (Str × V)} {dd : Option Addr} {s : Shared} {Q : Flow → Shared → Prop}, ErrAt h0 s.heap x C L m acc dd → acc.length + fs'.length ≤ 100 →
      (∀ h' tk dd', ErrAt h0 h' x C L m (errF vs fs' acc) dd' → Q .next { s with heap := h', toks := tk }) → wpAny (model prog w) A (execs sts env) Q E s := by
  obtain ⟨nm, qn, N, bs, bm, sn, sub, ab, col, dd0, k0, k1, k2, k3, k5, hC, hbm⟩ := T.cls
  have hcl : clsIn K C = some { name := nm, bases := bs, mro := .ref C :: bm, ns := N, qualname := qn, hasDict := true, slotNames := sn, subclasses := sub, abstract := ab, collection := col, hasDel := false } := by unfold clsIn; rw [hC] <;> rfl
  have ldl : ∀ {y : Str} {u : Value} {pos : Pos} {s : Shared} {Q : Value → Shared → Prop}, y ∈ (("self" : Str) :: ps) → s.heap.Ns L m → m y = some u → Q u s → wpAny (model prog w) A (eval (.Name y pos) env) Q E s :=
    fun {y u pos s Q} hy hn hv h => wpAny_Name (wpAny_loadName_local hk (hkl y hy) (by rw [hlo]; exact hn) hv h) (hdb y hy)
  have hsf : ("self" : Str) ∈ (("self" : Str) :: ps) := List.mem_cons_self
  -- one store
  have one : ∀ {F : Str} {y : V} {u : Value} {acc : List (Str × V)} {dd : Option Addr} {s : Shared} {Q : Unit → Shared → Prop}, findIn K (.ref C) F = some none → RelV y u → ErrAt h0 s.heap x C L m acc dd → acc.length ≤ 99 →
      (∀ h' tk dd', ErrAt h0 h' x C L m ((F, y) :: acc) dd' → Q () { s with heap := h', toks := tk }) → wpAny (model prog w) A (setAttr (.ref x) F u) Q E s := by
    intro F y u acc dd s Q hF ry S hl hq
    obtain ⟨kp, sz, hn, ⟨t1, hx⟩, hd⟩ := S
    have X : K.In s.heap := kept_but X0 hnx kp
    obtain ⟨hp, g, d, tk, os⟩ := s
    obtain ⟨oL, esL, epL, hoL, hrL⟩ := id hn
    cases dd with
    | none =>
      have hd : acc = [] := hd
      subst hd
      refine set_plain X (ox := excO C t1) (od := none) ⟨hx, rfl, rfl, trivial⟩ T.sa ?_
      refine exc_osa X hx hcl (show refsVE (.ref C :: bm) = true from hbm) rfl hF (fun h₃ tk₃ dx k₃ dn dne hx₃ hn₃ => ?_)
      have dL : dx ≠ L := fun z => by
        have := Heap.lt_size hoL
        rw [← z] at this
        exact absurd (Nat.lt_of_lt_of_le this dn) (Nat.lt_irrefl _)
      have z3 : dx < h₃.objs.size := by
        obtain ⟨o, _, _, e, _⟩ := hn₃
        exact Heap.lt_size e
      refine hq h₃ tk₃ (some dx) ⟨fun b o hb e => k₃ b o hb (kp b o hb e), Nat.le_of_lt (Nat.lt_of_le_of_lt (Nat.le_trans sz dn) z3), ⟨oL, esL, epL, k₃ _ _ hLx hoL, hrL⟩, ⟨t1, hx₃⟩, ?_⟩
      exact ⟨List.cons_ne_nil _ _, Nat.le_trans sz dn, dne, dL, _, hn₃, relO_put (fs := []) ry fun g => True.intro⟩
    | some dx =>
      obtain ⟨_, d1, d2, d3, mA, hns, rel⟩ := hd
      have hw := within_of rel
      obtain ⟨oD, _, _, hoD, _, _⟩ := hns.count hw
      refine set_plain X (ox := { cls := .ref C, dict := some dx, data := .fields #[.ref t1, .none, .none, .none, .bool false, .none] }) (od := some oD) ⟨hx, rfl, rfl, hoD⟩ T.sa ?_
      refine PySem.OEX.osa_old X hx hns hw (by rw [List.length_map]; omega) hcl (show refsVE (.ref C :: bm) = true from hbm) rfl hF (fun h' tk' k hn' => ?_)
      have z3 : dx < h'.objs.size := by
        obtain ⟨o, _, _, e, _⟩ := hn'
        exact Heap.lt_size e
      refine hq h' tk' (some dx) ⟨fun b o hb e => k b o (fun z => ?_) (kp b o hb e), Nat.le_of_lt (Nat.lt_of_le_of_lt d1 z3), ⟨oL, esL, epL, k _ _ (Ne.symm d3) hoL, hrL⟩, ⟨t1, k _ _ (Ne.symm d2) hx⟩, ⟨List.cons_ne_nil _ _, d1, d2, d3, _, hn', relO_put ry rel⟩⟩
      have := Heap.lt_size e
      rw [z] at this
      exact absurd (Nat.lt_of_lt_of_le this d1) (Nat.lt_irrefl _)
  intro sts fs' S
  induction S with
  | nil =>
    intro hfs acc dd s Q S hl hq
    exact wpAny_execs_nil (by have := hq s.heap s.toks dd S; exact this)
  | @par F p i q1 q2 q3 q4 r fs1 h t ih =>
    intro hfs acc dd s Q S hl hq
    obtain ⟨v, u, hv, ru, hm⟩ := hpar i p h
    have hp : p ∈ (("self" : Str) :: ps) := List.mem_cons_of_mem _ (List.mem_of_getElem? h)
    refine wpAny_execs_cons (plainObj_wpAny_Assign_Attribute ?_)
    refine ldl hp S.ns hm (ldl hsf S.ns hself ?_)
    have hl2 : acc.length + (fs1.length + 1) ≤ 100 := hl
    refine one (hfs _ List.mem_cons_self |> T.noF _) ru S (by omega) fun h' tk dd' S' => ?_
    refine ih (fun z hz => hfs z (List.mem_cons_of_mem _ hz)) (s := { s with heap := h', toks := tk }) S' (by rw [List.length_cons]; omega) fun h'' tk' dd'' S'' => ?_
    have e : errF vs ((F, Sum.inl i) :: fs1) acc = errF vs fs1 ((F, v) :: acc) := by
      show errF vs fs1 ((F, vs.getD i .non) :: acc) = _
      rw [List.getD_eq_getElem?_getD, hv]; rfl
    rw [e] at hq
    exact hq h'' tk' dd'' S''
  | @con F c j q1 q2 q3 q4 r fs1 t ih =>
    intro hfs acc dd s Q S hl hq
    refine wpAny_execs_cons (plainObj_wpAny_Assign_Attribute ?_)
    refine Calls.Constant_str (ldl (s := { s with toks := s.toks + 1 }) hsf S.ns hself ?_)
    have hl2 : acc.length + (fs1.length + 1) ≤ 100 := hl
    refine one (y := .str c) (s := { s with toks := s.toks + 1 }) (hfs _ List.mem_cons_self |> T.noF _) ⟨_, rfl⟩ S (by omega) fun h' tk dd' S' => ?_
    refine ih (fun z hz => hfs z (List.mem_cons_of_mem _ hz)) (s := { s with heap := h', toks := tk }) S' (by rw [List.length_cons]; omega) fun h'' tk' dd'' S'' => ?_
    exact hq h'' tk' dd'' S''
end
section
open PySem PySem.W PySem.Calls PyProof.Rows PySem.HandSPX
variable {prog : Program} {w : World} {A : Around} {K : PySem.W.Frag} {C fI : Addr} {st : Stmt} {q : Str} {ps : List Str} {fs : List (Str × Sum Nat Str)}
theorem call_mw (T : ErrC prog K C fI st q ps fs) {E : Value → Shared → Prop} {h : Heap} {g : Array GenState} {d : Drawn} {t : Nat} {os : OsState} {u e t0 : Addr} {rest : List Value} {Q : Value → Shared → Prop} (X : K.In h)
    (he : h.get? e = some (excO C t0)) (hu : h.get? u = some (kxs_mw "ValueError.__init__" e)) (hrest : rest.length ≤ sizeLine)
    (hq : ∀ h' t1, (∀ b o, b ≠ e → h.get? b = some o → h'.get? b = some o) → h'.get? e = some (excO C t1) → Q .none ⟨h', g, d, t, os⟩) :
    wpAny (model prog w) A (call (.ref u) rest) Q E ⟨h, g, d, t, os⟩ := by
  obtain ⟨nm, qn, N, bs, bm, sn, sub, ab, col, dd0, k0, k1, k2, k3, k5, hC, hbm⟩ := T.cls
  refine wpAny_call (codeAny_of_tree ?_)
  show wpAny _ A.in1 (callAny (.ref u) ⟨rest, []⟩) _ _ _
  simp only [callAny]
  refine wpAny_bind (wpAny_load hu ?_)
  simp only [kxs_mw, show (Value.type "method-wrapper" == Value.type "method" || Value.type "method-wrapper" == Value.type "builtin_function_or_method" || Value.type "method-wrapper" == Value.type "method-wrapper") = true by decide, if_true]
  refine KFB.if_so (by decide) ?_
  refine wpAny_bind (check_bound_init F.excBase_ValueError.toExcCallFacts (X _ _ hC) he rfl ?_)
  refine wpAny_bind (wpAny_pure (wpAny_pure ?_))
  refine ⟨plainId_quiet F.excBase_ValueError.init.plain _, codeAny_builtin F.excBase_ValueError.initEntry ?_⟩
  exact exc_init_tree (cls := .ref C) (t0 := t0) (dv := none) (c2 := .none) (c3 := .none) (b4 := .bool false) he hrest fun h' k e1 _ => hq h' _ k e1
theorem err_init (T : ErrC prog K C fI st q ps fs) {R : Result → Shared → Prop} {s : Shared} {x t0 : Addr} {vs : List V} {us : List Value} {mg : Str → Option Value} (X : K.In s.heap) (hlim : s.heap.NoLimit)
    (G : s.heap.Ns mainGlobals mg) (hsup : mg "super" = none) (B : ∃ mb, s.heap.Ns builtinsNs mb ∧ ∀ y : Str, y ≠ "__name__" → mb y = bootBuiltins y)
    (hx : s.heap.get? x = some (excO C t0)) (hnx : K.lookup x = none) (hroom : A.depth < recursionLimit) (hv : Vals vs us) (hlen : vs.length = ps.length) (hfs : fs.length ≤ 90) (hdb : ∀ y ∈ (("self" : Str) :: ps), (y == ("__debug__" : Str)) = false)
    (hq : ∀ h' tk dd L m, L ≠ x → s.heap.objs.size ≤ L → ErrAt s.heap h' x C L m (errF vs fs []) dd → R (.ok (.ret .none)) { s with heap := h', toks := tk }) :
    codeAny (model prog w) A (.call (.ref fI) ⟨.ref x :: us, []⟩) R s := by
  obtain ⟨oc, od, doc, pm, an, cda, cc, ct, osl, ccl, cdd, cvs, ccs, tf, cl, cld, csl, ho, hcd, hcode, hcv, hcell⟩ := T.fn
  obtain ⟨nm, qn, N, bs, bm, sn, sub, ab, col, dd0, k0, k1, k2, k3, k5, hC, hbm⟩ := T.cls
  obtain ⟨p0, p1, p2, p3, p4, p5, j, msg, sts, hbody, hsts, hev⟩ := T.bo
  obtain ⟨ar, har, hself⟩ := T.hd
  have hcl : clsIn K C = some { name := nm, bases := bs, mro := .ref C :: bm, ns := N, qualname := qn, hasDict := true, slotNames := sn, subclasses := sub, abstract := ab, collection := col, hasDel := false } := by unfold clsIn; rw [hC] <;> rfl
  have hul : us.length = ps.length := by rw [← hlen]; exact hv.length.symm
  have hbind := BindsTo.of_eq (s := s) (T.bd doc pm an cda cc ct (.ref x :: us) (by rw [List.length_cons, hul]))
  have binK : ∀ y ∈ ((("self" : Str) :: ps).zip (Value.ref x :: us)), (defScope st).names.lookup y.1 = some .local := fun ⟨n, u⟩ hy => T.scl n (List.of_mem_zip hy).1
  refine ks_codeAny_call_defAt (fd := ksFn "__init__" q (defArgs st) (defBody st) (defScope st) .none .none doc pm an (.ref cda) ct cc) (body := defBody st) (binds := (("self" : Str) :: ps).zip (Value.ref x :: us)) hroom (X _ _ ho) rfl hlim (codeRec_of X hcd) rfl hbind T.scn binK (fun h₁ hns hk₁ => ?_) T.scc T.scg T.sck
  have X₁ : K.In h₁ := X.keeps hk₁
  have hx₁ := hk₁ _ _ hx
  have hLx : s.heap.objs.size ≠ x := Nat.ne_of_gt (Heap.lt_size hx)
  have sz1 : s.heap.objs.size < h₁.objs.size := hns.lt
  generalize hm : (fun y => (List.reverse ((("self" : Str) :: ps).zip (Value.ref x :: us))).lookup y) = m at hns
  have key : ∀ (l1 : List Str) (l2 : List Value) (i : Nat) (y : Str) (u : Value), l1.Nodup → l1[i]? = some y → l2[i]? = some u → (List.reverse (l1.zip l2)).lookup y = some u := by
    intro l1
    induction l1 with
    | nil => intro l2 i y u _ h _; simp at h
    | cons a r ih =>
      intro l2 i y u nd h1 h2
      cases l2 with
      | nil => simp at h2
      | cons b l2 =>
        rw [List.zip_cons_cons, List.reverse_cons, List.lookup_append]
        cases i with
        | zero =>
          simp only [List.getElem?_cons_zero, Option.some.injEq] at h1 h2
          subst h1 h2
          have : (List.reverse (r.zip l2)).lookup a = none := by
            rw [List.lookup_eq_none_iff]
            intro p hp
            have hp' := List.mem_reverse.mp hp
            have := (List.of_mem_zip (show (p.1, p.2) ∈ r.zip l2 from hp')).1
            simp only [beq_eq_false_iff_ne, ne_eq, bne_iff_ne]
            intro e
            rw [e] at nd
            exact (List.nodup_cons.mp nd).1 this
          rw [this]
          simp [List.lookup]
        | succ i =>
          rw [ih l2 i y u (List.nodup_cons.mp nd).2 h1 h2]; rfl
  have mself : m "self" = some (.ref x) := by rw [← hm]; exact key _ _ 0 _ _ T.nd rfl rfl
  have mpar : ∀ (i : Nat) p, ps[i]? = some p → ∃ v u, vs[i]? = some v ∧ RelV v u ∧ m p = some u := fun i p hp => by
    have hi : i < vs.length := by rw [hlen]; exact (List.getElem?_eq_some_iff.mp hp).1
    obtain ⟨u, hu, ru⟩ := hv.get (List.getElem?_eq_getElem hi)
    refine ⟨_, u, List.getElem?_eq_getElem hi, ru, ?_⟩
    rw [← hm]
    exact key _ _ (i + 1) _ _ T.nd hp hu
  have hDget : h₁.get? C = some (excClassObj nm qn C N bs bm true sn sub ab col dd0 k0 k1 k2 k3 k5 "ValueError.__new__") := X₁ _ _ hC
  obtain ⟨pl, hev⟩ := hev s.heap.objs.size cda cc
  show _root_.PySem.wpAt _ (A.deeper (ksEnv q (defScope st) s.heap.objs.size fI (.ref cda) cc)) (.func (defBody st) (ksEnv q (defScope st) s.heap.objs.size fI (.ref cda) cc)) (execs (defBody st) (ksEnv q (defScope st) s.heap.objs.size fI (.ref cda) cc)) _ _ _
  generalize henv : ksEnv q (defScope st) s.heap.objs.size fI (.ref cda) cc = env at hev ⊢
  have e1 : env.scope = defScope st := by rw [← henv]
  have e2 : env.locals = s.heap.objs.size := by rw [← henv]
  have e3 : env.func = some fI := by rw [← henv]
  have e4 : env.code = .ref cda := by rw [← henv]
  have e5 : env.globals = mainGlobals := by rw [← henv]
  have e6 : env.builtins = builtinsNs := by rw [← henv]
  have e7 : env.cells.lookup ("__class__" : Str) = some cc := by rw [← henv]; rfl
  have kd : ∀ y, env.kindOf y = (defScope st).names.lookup y := fun y => by rw [← henv]; rfl
  have hkf : env.scope.kind = .function := by rw [e1]; exact T.sck
  generalize hbb : defBody st = body
  rw [hbb] at hbody
  have hbody2 : execs body env = execs (.Expr (.Call (.Attribute (.Call (.Name "super" p0) [] [] p1) "__init__" p2) [.Constant (.str msg) j p3] [] p4) p5 :: sts) env := by rw [hbody]
  rw [hbody2]
  refine ks_wpAt_execs_cons (ks_wpAt_Expr_any ?_ (by simp [interactive, hkf]) rfl)
  refine ks_wpAt_MethodCall (pl := pl) ?_ hev
  refine ks_wpAt_super_base ((kd _).trans T.scs) ((kd _).trans T.scf) (by decide) e3 (hk₁ _ _ (X _ _ ho)) rfl har e4 (X₁ _ _ hcode) rfl hcv (by simp) T.top ?_
  obtain ⟨mb, hB1, hB2⟩ := B
  refine ks_loadName_global hkf ((kd _).trans T.scs) (loadGlobal_builtin (by rw [e5]; exact G.keeps hk₁) hsup (by rw [e6]; exact hB1.keeps hk₁) ((hB2 _ (by decide)).trans (by decide +kernel)) ⟨rfl, ?_⟩)
  refine wpAny_loadName_free hkf ((kd _).trans T.scf) e7 ⟨_, X₁ _ _ hcell, rfl⟩ ?_
  rw [hself]
  refine wpAny_loadName_local hkf ((kd _).trans (T.scl _ List.mem_cons_self)) (by rw [e2]; exact hns) mself ?_
  refine ks_wpAny_isType_cls hDget rfl ⟨rfl, ?_⟩
  obtain ⟨hp0, g, d, tk, os⟩ := s
  refine ks_wpAny_call_super (ox := excO C t0) hDget rfl hx₁ rfl (fun c e => nomatch e) (looks_mroIn X₁ T.mro) (fun h₂ e₂ k₂ => ?_)
  have X₂ : K.In h₂ := X₁.keeps k₂
  have I₂ : InstAt h₂ x (excO C t0) C none := ⟨k₂ _ _ hx₁, rfl, rfl, trivial⟩
  have hsu := T.su
  unfold ks_superIn at hsu
  rw [hcl] at hsu
  refine kxs_getMethod kxs_ValueError e₂ (looks_opaque X₂ T.op) (l₀ := .ref C :: bm) ?_ rfl X₂ hsu (I₂.type.andThen (looks_subIn X₂ T.veC)) (ks_ne X₂ I₂ hcl) (by decide) ?_
  · exact fun A Q E s k q => wpAny_bind ((looks_clsIn X₂ hcl) A _ E s k (wpAny_pure q))
  have hu : (h₂.push (kxs_mw "ValueError.__init__" x)).get? h₂.objs.size = some (kxs_mw "ValueError.__init__" x) := Heap.get?_push_at rfl rfl
  have k₃ : ∀ b o, h₂.get? b = some o → (h₂.push (kxs_mw "ValueError.__init__" x)).get? b = some o := fun b o e => Heap.get?_push_of_some _ e
  show wpAny _ _ (callWith p4 (.ref h₂.objs.size) [] (backTo p4 (starEach [.Constant (.str msg) j p3] env)) []) _ _ _
  refine kxs_callWith (i := "ValueError.__init__") (x := x) rfl (evalArgs_plain ?_)
  show wpAny _ _ (spliced [(false, eval (.Constant (.str msg) j p3) env)]) _ _ _
  refine spliced_cons (Constant_str (spliced_nil ⟨hu, ?_⟩))
  refine call_mw T (X₂.keeps k₃) (k₃ _ _ (k₂ _ _ hx₁)) hu (by show 1 ≤ sizeLine; decide) fun h₄ t1 k₄ hx₄ => ?_
  show _root_.PySem.wpAt _ _ _ (execs sts env) _ _ _
  refine wpAt_of_wpAny ?_
  have keep4 : ∀ b o, b ≠ x → hp0.get? b = some o → h₄.get? b = some o := fun b o hb e => k₄ b o hb (k₃ _ _ (k₂ _ _ (hk₁ _ _ e)))
  obtain ⟨oL, esL, epL, hoL, hrL⟩ := id hns
  have hoL4 : h₄.get? hp0.objs.size = some oL := k₄ _ _ hLx (k₃ _ _ (k₂ _ _ hoL))
  have S0 : ErrAt hp0 h₄ x C hp0.objs.size m [] none := ⟨keep4, Nat.le_of_lt (Heap.lt_size hoL4), ⟨oL, esL, epL, hoL4, hrL⟩, ⟨t1, hx₄⟩, rfl⟩
  refine err_stores T (h0 := hp0) X hnx hLx mself mpar hkf e2 (fun y hy => (kd y).trans (T.scl y hy)) hdb hsts (fun _ z => z) (acc := []) (s := ⟨h₄, g, d, _, os⟩) S0 (by rw [List.length_nil]; omega) fun h' tk' dd' S' => ?_
  exact hq h' tk' dd' hp0.objs.size m hLx (Nat.le_refl _) S'
end
section
open PySem PySem.Spec PyProof.Rows
variable {X : Cx} {C fI : Addr} {st : Stmt} {q : Str} {ps : List Str} {fs : List (Str × Sum Nat Str)}
/-- what the making of such an error leaves: its class, its own dict (new), the fields -/
def errQ (C : Addr) (fs : List (Str × Sum Nat Str)) (vs : List V) (H1 : Hp) (Q : XK) : Prop := match fs with
  | [] => Q (.ref C) none H1
  | p :: r => ∀ d, H1 d = none → Q (.ref C) (some d) (upd H1 d (.xd (errF vs (p :: r) [])))
def tErr (C : Addr) (n : Nat) (fs : List (Str × Sum Nat Str)) (ta : TA) : L2.St → Hp → XK → Prop := fun σ H Q => ta σ H fun vs H1 => vs.length = n ∧ errQ C fs vs H1 Q
theorem errF_nil {vs : List V} : ∀ {fs : List (Str × Sum Nat Str)} {acc : List (Str × V)}, errF vs fs acc = [] → fs = [] ∧ acc = []
  | [], acc, e => ⟨rfl, e⟩
  | p :: r, acc, e => by
    obtain ⟨_, h⟩ := errF_nil (fs := r) (acc := (p.1, fldV vs p.2) :: acc) e
    cases h
theorem err_made (T : ErrC X.prog X.K C fI st q ps fs) {pins : List (Addr × Obj)} {σ : L2.St} {H1 : Hp} {s1 : Shared} {Q : XK} {vs : List V} {us : List Value} {k : Nat} (hsup : X.mg "super" = none) (hr : Room k X.A) (hfs : fs.length ≤ 90)
    (hdb : ∀ y ∈ (("self" : Str) :: ps), (y == ("__debug__" : Str)) = false) (I1 : Inv X pins σ H1 s1) (r : Vals vs us) (hl : vs.length = ps.length) (hz : us.length ≤ sizeLine)
    (q1 : errQ C fs vs H1 Q) :
    wpAny (model X.prog X.w) X.A (call (.ref C) us) (MkP X pins σ Q) X.xe s1 := by
  obtain ⟨nm, qn, N, bs, bm, sn, sub, ab, col, dd0, k0, k1, k2, k3, k5, hC, hbm⟩ := T.cls
  have hlim := I1.nolimit
  have KX := I1.kIn
  have G := I1.mod.glob.keeps I1.bk
  have B : ∃ mb, s1.heap.Ns builtinsNs mb ∧ ∀ y : Str, y ≠ "__name__" → mb y = bootBuiltins y := by
    obtain ⟨mb, b1, b2⟩ := I1.mod.blt
    exact ⟨mb, b1.keeps I1.bk, b2⟩
  obtain ⟨hp, g, dr, tk, os⟩ := s1
  have kk : ∀ b o, hp.get? b = some o → ((hp.push (PySem.W.kdv_tup us)).push (PySem.HandSPX.excO C hp.objs.size)).get? b = some o := fun b o e => Heap.get?_push_of_some _ (Heap.get?_push_of_some _ e)
  have hget : ((hp.push (PySem.W.kdv_tup us)).push (PySem.HandSPX.excO C hp.objs.size)).get? (hp.objs.size + 1) = some (PySem.HandSPX.excO C hp.objs.size) := by heap_get
  have hnx : X.K.lookup (hp.objs.size + 1) = none := by
    cases e : X.K.lookup (hp.objs.size + 1) with
    | none => rfl
    | some o =>
      have z : hp.get? (hp.objs.size + 1) = some o := KX _ _ e
      exact absurd (Nat.lt_of_succ_lt (Heap.lt_size z)) (Nat.lt_irrefl _)
  refine wpAny_call (PySem.HandSPX.call_own F.excBase_ValueError (fun Y => PySem.HandSPX.refsVE_contains Y bm hbm) (KX _ _ hC) (PySem.W.looks_findIn KX T.iC) (fun self => PySem.W.bind_fn KX self T.tC) hz ?_)
  have hdp := hr.dp
  refine err_init T (vs := vs) (mg := X.mg) (s := ⟨(hp.push (PySem.W.kdv_tup us)).push (PySem.HandSPX.excO C hp.objs.size), g, dr, tk, os⟩) (KX.keeps kk) (hlim.keeps kk) (G.keeps kk) hsup (let ⟨mb, b1, b2⟩ := B; ⟨mb, b1.keeps kk, b2⟩) hget hnx ?_ r hl hfs hdb fun h' tk' dd L m hLx hLz S => ?_
  · show X.A.depth + 1 < recursionLimit
    omega
  obtain ⟨kp, sz, hn, ⟨t1, hx⟩, hd⟩ := S
  have e2 : ((hp.push (PySem.W.kdv_tup us)).push (PySem.HandSPX.excO C hp.objs.size)).objs.size = hp.objs.size + 2 := by simp [Heap.size_push]
  have old0 : ∀ b o, hp.get? b = some o → h'.get? b = some o := fun b o e => kp b o (Nat.ne_of_lt (Nat.lt_succ_of_lt (Heap.lt_size e))) (kk b o e)
  obtain ⟨G', g1, g2⟩ := restrict h' fun b => decide (b ≠ hp.objs.size + 1)
  have gk : ∀ b, b ≠ hp.objs.size + 1 → G'.get? b = h'.get? b := fun b hb => g1 b (decide_eq_true hb)
  have ge : G'.get? (hp.objs.size + 1) = none := g2 _ (by simp)
  have old : ∀ b o, hp.get? b = some o → G'.get? b = some o := fun b o e => (gk b (Nat.ne_of_lt (Nat.lt_succ_of_lt (Heap.lt_size e)))).trans (old0 b o e)
  have sub2 : ∀ b o, G'.get? b = some o → h'.get? b = some o := fun b o e => by
    by_cases hb : b = hp.objs.size + 1
    · rw [hb, ge] at e; cases e
    · rw [← gk b hb]; exact e
  refine ⟨rfl, ?_⟩
  show MkP X pins σ Q (.ref (hp.objs.size + 1)) ⟨h', g, dr, tk', os⟩
  cases dd with
  | none =>
    have hd : errF vs fs [] = [] := hd
    obtain ⟨rfl, _⟩ := errF_nil hd
    have J : Inv X pins σ H1 ⟨G', g, dr, tk', os⟩ := I1.kept (t' := tk') old
    exact ⟨hp.objs.size + 1, _, _, ⟨G', g, dr, tk', os⟩, H1, .ref C, none, rfl, J, sub2, ge, hx, ⟨rfl, rfl⟩, rfl, rfl, I1.hok.fresh (Nat.le_succ _), rfl, I1.bare, raises_own T.exC T.tyC, q1⟩
  | some dx =>
    obtain ⟨d0, d1, d2, d3, mA, hns, rel⟩ := hd
    rw [e2] at d1
    have hdx : hp.objs.size ≤ dx := Nat.le_trans (Nat.le_add_right _ 2) d1
    have nd : H1 dx = none := I1.hok.fresh hdx
    have ob : ObjOk X.prog X.w (upd H1 dx (.xd (errF vs fs []))) G' dx (.xd (errF vs fs [])) := ⟨mA, hns.at (fun o q => (gk dx d2).trans q), rel⟩
    have J : Inv X pins σ (upd H1 dx (.xd (errF vs fs []))) ⟨G', g, dr, tk', os⟩ := I1.laid (t' := tk') old hdx ob
    refine ⟨hp.objs.size + 1, _, _, ⟨G', g, dr, tk', os⟩, _, .ref C, some dx, rfl, J, sub2, ge, hx, ⟨rfl, rfl⟩, rfl, rfl, ?_, rfl, I1.bare, raises_own T.exC T.tyC, ?_⟩
    · rw [upd_ne (Ne.symm d2)]
      exact I1.hok.fresh (Nat.le_succ _)
    · cases fs with
      | nil =>
        exact absurd rfl d0
      | cons p r => exact q1 dx nd
/-- C(e, ..) -/
theorem pmk_err {x : Str} {e : Expr} {es : List Expr} {ta : TA} {p pos : Pos} {k : Nat} (T : ErrC X.prog X.K C fI st q ps fs) (hm : X.mg x = some (.ref C)) (hsup : X.mg "super" = none) (hr : Room k X.A) (ha : PA X (e :: es) ta) (hg : Gl X x := by rfl)
    (hfs : fs.length ≤ 90 := by decide) (hps : ps.length ≤ 90 := by decide) (hdb : ∀ y ∈ (("self" : Str) :: ps), (y == ("__debug__" : Str)) = false := by decide) (hd : (x == ("__debug__" : Str)) = false := by decide)
    (he : starEach (e :: es) X.env = (false, eval e X.env) :: starEach es X.env := by rfl) (hpl : (backTo pos (starEach es X.env)).any (·.1) = false := by rfl) :
    PMk X (.Call (.Name x p) (e :: es) [] pos) (tErr C ps.length fs ta) := by
  intro pins s σ H Q I h
  refine wpAny_Call_Name_kw (ld_glob I hg hm ?_ hd)
  refine PySem.W.callWith_K (h₀ := X.base) I.ok.mod.kin T.kC (thn (ha.run pos pins s σ H _ I h) fun us s1 hh => ?_) he hpl
  obtain ⟨vs, H1, I1, r1, hl, q1⟩ := hh
  refine ⟨I1.kIn, ?_⟩
  exact err_made T hsup hr hfs hdb I1 r1 hl (by rw [List.nil_append, ← r1.length, hl, sizeLine_eq]; omega) q1
/-- C() -/
theorem pmk_err0 {x : Str} {p pos : Pos} {k : Nat} (T : ErrC X.prog X.K C fI st q [] fs) (hm : X.mg x = some (.ref C)) (hsup : X.mg "super" = none) (hr : Room k X.A) (hg : Gl X x := by rfl)
    (hfs : fs.length ≤ 90 := by decide) (hd : (x == ("__debug__" : Str)) = false := by decide) :
    PMk X (.Call (.Name x p) [] [] pos) (tErr C 0 fs tNil) := by
  intro pins s σ H Q I h
  refine wpAny_Call_Name_kw (ld_glob I hg hm ?_ hd)
  refine PySem.W.callWith_K0 I.kIn T.kC ?_
  obtain ⟨_, q1⟩ := h
  exact err_made T (vs := []) (us := []) hsup hr hfs (by decide) I .nil rfl (Nat.zero_le _) q1
end
/-! ### several except clauses, with or without a name -/
section
open PySem PySem.Spec PyProof.Rows
abbrev Cls1 := Value × Option Nat × (Addr → Value → Option Addr → TS)
def endsAs (i : Nat) (D : Ends) : Ends := { nx := fun σ' H' => D.nx (σ'.set i none) H', rt := D.rt, bk := fun σ' H' => D.bk (σ'.set i none) H', ct := fun σ' H' => D.ct (σ'.set i none) H' }
def wCl (D : Ends) (on : Option Nat) (ts : Addr → Value → Option Addr → TS) (a : Addr) (cls : Value) (d : Option Addr) (σ : L2.St) (H : Hp) : Prop := match on with
  | none => ts a cls d D σ H
  | some i => ts a cls d (endsAs i D) (σ.set i (some (.ref a))) H
/-- what the clauses wish of an exception of the body, one after the other -/
def wManyA (K : PySem.W.Frag) (Wout : WX) (D : Ends) : List Cls1 → WX
  | [] => Wout
  | (c, on, ts) :: r => fun cls d σ H => ∃ b, PySem.W.exmOne K cls c = some b ∧ (b = true → ∀ a, H a = none → wCl D on ts a cls d σ H) ∧ (b = false → wManyA K Wout D r cls d σ H)
inductive HdsA (X : Cx) : List ExceptHandler → List Cls1 → Prop
  | nil : HdsA X [] []
  | cons {x : Str} {c : Value} {ts : Addr → Value → Option Addr → TS} {b₀ : Stmt} {suite : List Stmt} {np pos' : Pos} {hds : List ExceptHandler} {l : List Cls1} (hc : Names X x c)
      (hsu : ∀ (a : Addr) (oe : Obj) (cls : Value) (d : Option Addr) (pn : List (Addr × Obj)), Zc cls d oe → (∃ vs, oe.data = .fields vs) → PSs (X.suite a ((a, oe) :: pn)) (b₀ :: suite) (ts a cls d)) (r : HdsA X hds l) :
      HdsA X (.ExceptHandler (some (.Name x np)) none (b₀ :: suite) pos' :: hds) ((c, none, ts) :: l)
  | consA {x n : Str} {c : Value} {i : Nat} {ts : Addr → Value → Option Addr → TS} {b₀ : Stmt} {suite : List Stmt} {np pos' : Pos} {hds : List ExceptHandler} {l : List Cls1} (hc : Names X x c) (hi : X.N[i]? = some n) (hln : X.env.kindOf n = some .local)
      (hsu : ∀ (a : Addr) (oe : Obj) (cls : Value) (d : Option Addr) (pn : List (Addr × Obj)), Zc cls d oe → (∃ vs, oe.data = .fields vs) → PSs (X.suite a ((a, oe) :: pn)) (b₀ :: suite) (ts a cls d)) (r : HdsA X hds l) :
      HdsA X (.ExceptHandler (some (.Name x np)) (some n) (b₀ :: suite) pos' :: hds) ((c, some i, ts) :: l)
variable {X : Cx} {body : List Stmt} {h₀ : ExceptHandler} {hds : List ExceptHandler} {l : List Cls1} {pos : Pos} {tb : WX → TS} {Wout : WX}
theorem ps_tryA (hs : X.stack = X.env :: X.outer) (hf : X.env.frame = some X.env.locals) (hN : X.N.Nodup) (tk : Takes X Wout)
    (hb : ∀ (W : WX) (pn : List (Addr × Obj)) (xe : Value → Shared → Prop), Takes (X.tr pn xe) W → PassesOwn (model X.prog X.w) X.A X.env xe → PSs (X.tr pn xe) body (tb W))
    (hh : HdsA X (h₀ :: hds) l) : PS X (.Try body (h₀ :: hds) [] [] pos) (fun D σ H => tb (wManyA X.K Wout D l) D σ H) := by
  refine ⟨fun pins s σ H D I h => ?_⟩
  have ok := I.ok
  have hfr : X.A.frames = some (X.env :: X.outer) := by rw [ok.frames, hs]
  refine wpAny_Try_except ?_
  refine wpAny_mono ((hb (wManyA X.K Wout D l) (X.pn ++ pins) (fun e s₁ => wpAny (model X.prog X.w) X.A (noteFrame e X.env) (fun _ s₂ => wpAny (model X.prog X.w) X.A (setFlight e none) (fun _ s₃ =>
    wpAny (model X.prog X.w) X.A (handleBy e X.env (h₀ :: hds)) (SP X pins D) X.xe s₃) X.xe s₂) X.xe s₁) (fun u s' xx => ?_) PassesOwn.looking).run [] s σ H D (I.toTry _) h) (fun f s1 hsp => ?_) (fun e s1 he => he)
  · -- the catch
    obtain ⟨a, B, sI, pins', σ', H', cls, d, rfl, J', nb, up, sky, na, os, ag, w⟩ := xx
    have J : Inv X pins σ' H' sI := J'.ofTry ok
    have sky' : Sky B (X.env :: X.outer) a (Zc cls d) X.env.locals s'.heap := by rw [← hs]; exact sky
    show wpAny (model X.prog X.w) X.A (noteFrame (.ref a) X.env) _ _ _
    refine Sky.land Zc.steady hfr hf sky' fun h3 fl3 up3 => ?_
    have J3 : Inv X pins σ' H' { s' with heap := h3 } := J.landed nb fl3.1 (up.trans up3) os ag
    obtain ⟨oe3, vs3, he3, hz3, hd3⟩ := fl3.there
    have notFr : ∀ {h : Heap} {o : Obj} {vs : Array Value}, h.FunFrames B (X.env :: X.outer) → h.get? a = some o → o.data = .fields vs → a ∉ frs (X.env :: X.outer) := fun {h o vs} ff e dd hm => by
      obtain ⟨_, o', e', hnf⟩ := ff.mem hm
      rw [e] at e'; cases e'
      exact hnf _ dd
    have nfr := notFr fl3.2.2.1 he3 hd3
    have nL : a ≠ X.env.locals := fun z => nfr (List.mem_filterMap.mpr ⟨X.env, List.mem_cons_self, by rw [hf, z]⟩)
    have nF : a ∉ X.fs := fun hm => by
      obtain ⟨e, he, q⟩ := List.mem_filterMap.mp hm
      exact nfr (List.mem_filterMap.mpr ⟨e, List.mem_cons_of_mem _ he, q⟩)
    have S3 := J3.suite he3 hd3 na nL nF
    have tst : ∀ {x : Str} {c : Value} {np : Pos}, Names X x c → ∀ {Q : Value → Shared → Prop} {E : Value → Shared → Prop}, Q c { s' with heap := h3 } → wpAny (model X.prog X.w) (X.A.mark (some (.ref a))) (eval (.Name x np) X.env) Q E { s' with heap := h3 } := fun {x c np} hc {Q E} q => by
      obtain ⟨hg, hdbg, hm | ⟨hm, hv, hnn⟩⟩ := hc
      · exact ld_glob (X := X.suite a ((a, oe3) :: (X.pn ++ pins))) S3 hg hm q hdbg
      · exact ld_blt (X := X.suite a ((a, oe3) :: (X.pn ++ pins))) S3 hg hm hv q hnn hdbg
    have LT : PySem.W.Looks (model X.prog X.w) h3 (typeOf (.ref a)) cls := fun A Q E s k q => wpAny_typeOf_ref (k _ _ he3) (by rw [hz3.1]; exact q)
    have go : ∀ {hds' : List ExceptHandler} {l' : List Cls1}, HdsA X hds' l' → wManyA X.K Wout D l' cls d σ' H' →
        wpAny (model X.prog X.w) X.A (handleBy (.ref a) X.env hds') (SP X pins D) X.xe { s' with heap := h3 } := by
      intro hds' l' hk
      induction hk with
      | nil =>
        intro w
        refine wpAny_handleBy_nil ?_
        obtain ⟨k1, k2, k3, oe, vs, T, oT, ts', he, hz, hd, h1, hr⟩ := id fl3
        unfold PySem.passOn
        refine wpAny_bind (wpAny_field he hd h1 ?_)
        rw [if_neg (show ¬ ((Value.ref T == Value.none) = true) from by simp)]
        have fin : wpAny (model X.prog X.w) X.A (setFlight (.ref a) X.env.frame) (fun _ s4 => wpAny (model X.prog X.w) X.A (throw (.ref a) : Sem Flow) (SP X pins D) X.xe s4) X.xe { s' with heap := h3 } := by
          rw [hf]
          refine HandSPX.setFlight_upZ fl3 fun h4 hh4 up4 => wpAny_throw (tk _ _ ?_)
          exact ⟨a, B, sI, pins, σ', H', cls, d, rfl, J, nb, (up.trans up3).trans up4, .inr (.inr (by rw [hs]; exact hh4)), na, os, ag, w⟩
        first
          | exact wpAny_bind (wpAny_pure (wpAny_bind fin))
          | exact wpAny_bind fin
      | @cons x c ts b₀ suite np pos' hds2 l2 hc hsu r ih =>
        intro w
        obtain ⟨b, hb1, hyes, hno⟩ := w
        refine wpAny_handleBy_cons (codeAny_handlers_test ?_) (by intro q; cases q)
        have LM := PySem.W.exm_one (M := model X.prog X.w) (J3.kIn) LT hb1
        refine tst hc (LM.here ?_)
        cases b with
        | true =>
          refine codeAny_handlers_suite ?_
          refine HandSPX.lands_againZ fl3 fun h4 fl4 up4 => ?_
          have J4 : Inv X pins σ' H' { s' with heap := h4 } := J.landed nb fl4.1 ((up.trans up3).trans up4) os ag
          obtain ⟨oe4, vs4, he4, hz4, hd4⟩ := fl4.there
          have S4 := J4.suite he4 hd4 na nL nF
          refine wpAny_mono ((hsu a oe4 cls d (X.pn ++ pins) hz4 ⟨_, hd4⟩).run [] _ _ H' _ S4 (hyes rfl a na)) (fun f s6 hsp => ?_) (fun _ _ z => False.elim z)
          cases f with
          | next =>
            obtain ⟨σ6, H6, S6, q6⟩ := hsp
            exact ⟨_, _, S6.unsuite ok, q6⟩
          | brk =>
            obtain ⟨σ6, H6, S6, q6⟩ := hsp
            exact ⟨_, _, S6.unsuite ok, q6⟩
          | cont =>
            obtain ⟨σ6, H6, S6, q6⟩ := hsp
            exact ⟨_, _, S6.unsuite ok, q6⟩
          | ret u =>
            obtain ⟨v6, σ6, H6, S6, r6, q6⟩ := hsp
            exact ⟨_, _, _, S6.unsuite ok, r6, q6⟩
        | false =>
          show wpAny _ X.A (handleBy (.ref a) X.env hds2) _ _ _
          exact ih (hno rfl)
      | @consA x n c i ts b₀ suite np pos' hds2 l2 hc hi hln hsu r ih =>
        intro w
        obtain ⟨b, hb1, hyes, hno⟩ := w
        have hloc : Loc X.env.scope n := .inl hln
        refine wpAny_handleBy_cons (codeAny_handlers_test ?_) (by intro q; cases q)
        have LM := PySem.W.exm_one (M := model X.prog X.w) (J3.kIn) LT hb1
        refine tst hc (LM.here ?_)
        cases b with
        | true =>
          refine codeAny_handlers_suite_as ?_
          refine HandSPX.lands_againZ fl3 fun h4 fl4 up4 => ?_
          have J4 : Inv X pins σ' H' { s' with heap := h4 } := J.landed nb fl4.1 ((up.trans up3).trans up4) os ag
          obtain ⟨oe4, vs4, he4, hz4, hd4⟩ := fl4.there
          have S4 := J4.suite he4 hd4 na nL nF
          refine store_ok (X := X.suite a ((a, oe4) :: (X.pn ++ pins))) (v := .ref a) S4 hN hi hloc rfl (fun s5 S5 => ?_) (.inr hln)
          refine wpAny_mono ((hsu a oe4 cls d (X.pn ++ pins) hz4 ⟨_, hd4⟩).run [] s5 _ H' _ S5 (hyes rfl a na)) (fun f s6 hsp => ?_) (fun _ _ z => False.elim z)
          have end_ : ∀ {σ6 : L2.St} {H6 : Hp} {Q : Shared → Prop}, Inv (X.suite a ((a, oe4) :: (X.pn ++ pins))) [] σ6 H6 s6 → (∀ s7, Inv X pins (σ6.set i none) H6 s7 → Q s7) →
              wpAny (model X.prog X.w) X.A (do bindName X.env n .none; unbindBehindTheSuite X.env n pos') (fun _ s7 => Q s7) X.xe s6 := fun {σ6 H6 Q} S6 hq => gone_ok (S6.unsuite ok) hN hi hln hq
          cases f with
          | next =>
            obtain ⟨σ6, H6, S6, q6⟩ := hsp
            exact end_ S6 fun s7 J7 => ⟨_, _, J7, q6⟩
          | brk =>
            obtain ⟨σ6, H6, S6, q6⟩ := hsp
            exact end_ S6 fun s7 J7 => ⟨_, _, J7, q6⟩
          | cont =>
            obtain ⟨σ6, H6, S6, q6⟩ := hsp
            exact end_ S6 fun s7 J7 => ⟨_, _, J7, q6⟩
          | ret u =>
            obtain ⟨v6, σ6, H6, S6, r6, q6⟩ := hsp
            exact end_ S6 fun s7 J7 => ⟨_, _, _, J7, r6, q6⟩
        | false =>
          show wpAny _ X.A (handleBy (.ref a) X.env hds2) _ _ _
          exact ih (hno rfl)
    exact go hh w
  · cases f with
    | next =>
      obtain ⟨σ', H', J', q⟩ := hsp
      exact wpAny_execs_nil ⟨σ', H', J'.ofTry ok, q⟩
    | brk =>
      obtain ⟨σ', H', J', q⟩ := hsp
      exact ⟨σ', H', J'.ofTry ok, q⟩
    | cont =>
      obtain ⟨σ', H', J', q⟩ := hsp
      exact ⟨σ', H', J'.ofTry ok, q⟩
    | ret u =>
      obtain ⟨v, σ', H', J', r, q⟩ := hsp
      exact ⟨v, σ', H', J'.ofTry ok, r, q⟩
/-! ### o.m(e, ..) with a wish by the slots, defaults, keywords -/
variable {CX : CXT} {k : Nat} {f C : Addr} {fd : FuncData} {ps ks : List Str} {sp : Sp} {dvs : List V} {ds : List Value} {E : L2.St → XK} {x m : Str} {p apos : Pos} {e o : Expr} {es : List Expr} {kws : List Keyword} {ta : TE} {t tk : TA}
def tMethS (C : Addr) (m : Str) (sp : Sp) (dvs : List V) (E : L2.St → XK) (to : TE) (ta : TA) : TE := fun σ H Q => to σ H fun x H1 => ∃ a dx fs, x = .ref a ∧ H1 a = some (.ins C dx fs) ∧ fs.lookup m = none ∧ ta σ H1 fun vs H2 => sp (.ref a :: (vs ++ dvs)) H2 Q (E σ)
theorem pe_methSD {pl : Sem Bool} (he : PE X o ta) (c : Cls X.K C) (hm : Meth X.K C m f) (F : FnOk X.prog X.w X.K X.mg X.base CX k f fd ps sp) (hr : Room k X.A) (hb : Binds X.K fd ps ds) (hd : Vals dvs ds) (hx : ∀ σ, PassesAt CX X σ (E σ)) (ha : PA X (e :: es) t)
    (hst : starEach (e :: es) X.env = (false, eval e X.env) :: starEach es X.env := by rfl) (hpl : (backTo pos (starEach es X.env)).any (·.1) = false := by rfl)
    (ht : eval (.Call (.Attribute o m apos) (e :: es) [] pos) X.env = (do
      let ov ← eval o X.env
      standAt apos.atName
      let (f, first) ← holding [ov] (getMethod ov m pl)
      callWith pos f first (backTo pos (starEach (e :: es) X.env)) (backToKw pos (keywordEach [] X.env))) := by rfl) :
    PE X (.Call (.Attribute o m apos) (e :: es) [] pos) (tMethS C m sp dvs E ta t) := by
  refine ⟨fun pins s σ H Q I h => ?_⟩
  refine PySem.W.methodCall_KW (pl := pl) (thn (he.run pins s σ H _ I h) fun u s1 ⟨x, H1, I1, rx, a, dx, fs, ex, ea, l, q⟩ => ?_) ht
  subst ex
  obtain rfl : u = Value.ref a := rx
  refine getmeth_ok I1 ea c hm l ?_
  refine PySem.W.callWith_K (first := [.ref a]) (h₀ := X.base) I.ok.mod.kin hm.kp (thn (ha.run pos pins s1 σ H1 _ I1 q) fun us s2 ⟨vs, H2, I2, r, q2⟩ => ⟨I2.kIn, ?_⟩) hst hpl
  exact run_fnSD (us := .ref a :: us) (vs := .ref a :: vs) F hr hb hd (hx σ) I2 (.cons rfl r) q2
theorem pe_methSD0 {pl : Sem Bool} (he : PE X o ta) (c : Cls X.K C) (hm : Meth X.K C m f) (F : FnOk X.prog X.w X.K X.mg X.base CX k f fd ps sp) (hr : Room k X.A) (hb : Binds X.K fd ps ds) (hd : Vals dvs ds) (hx : ∀ σ, PassesAt CX X σ (E σ))
    (ht : eval (.Call (.Attribute o m apos) [] [] pos) X.env = (do
      let ov ← eval o X.env
      standAt apos.atName
      let (f, first) ← holding [ov] (getMethod ov m pl)
      callWith pos f first (backTo pos (starEach [] X.env)) (backToKw pos (keywordEach [] X.env))) := by rfl) :
    PE X (.Call (.Attribute o m apos) [] [] pos) (tMethS C m sp dvs E ta tNil) := by
  refine ⟨fun pins s σ H Q I h => ?_⟩
  refine PySem.W.methodCall_KW (pl := pl) (thn (he.run pins s σ H _ I h) fun u s1 ⟨x, H1, I1, rx, a, dx, fs, ex, ea, l, q⟩ => ?_) ht
  subst ex
  obtain rfl : u = Value.ref a := rx
  refine getmeth_ok I1 ea c hm l ?_
  exact PySem.W.callWith_K0 (first := [.ref a]) I1.kIn hm.kp (run_fnSD (us := [.ref a]) (vs := [.ref a]) F hr hb hd (hx σ) I1 (.cons rfl .nil) q)
end
/-! ### defs under which repr is asked: no guard is up -/
section
open PySem PySem.Spec PyProof.Rows
structure FnG (P : Program) (w : World) (K : PySem.W.Frag) (mg : Str → Option Value) (base : Heap) (CX : CXT) (k : Nat) (f : Addr) (fd : FuncData) (ps : List Str) (sp : Sp) : Prop where
  len : ∀ vs H Q E, sp vs H Q E → vs.length = ps.length
  run : ∀ (A : Around) (outer : List Env) (s : Shared) (H : Hp) (args : Args) (us : List Value) (vs : List V) (Q : VK) (E : XK), Room k A → A.guards = some [] → Env0 P w K mg base A outer s H → BindsTo s fd args (ps.zip us) → Vals vs us → sp vs H Q E →
    codeAny (model P w) A (.call (.ref f) args) (CR CX outer P w H s Q E) s
theorem FnG.of {P : Program} {w : World} {K : PySem.W.Frag} {mg : Str → Option Value} {base : Heap} {CX : CXT} {k : Nat} {f : Addr} {fd : FuncData} {ps : List Str} {sp : Sp} (F : FnOk P w K mg base CX k f fd ps sp) : FnG P w K mg base CX k f fd ps sp :=
  ⟨F.len, fun A outer s H args us vs Q E hr _ => F.run A outer s H args us vs Q E hr⟩
theorem FnG.mono {P : Program} {w : World} {K : PySem.W.Frag} {mg : Str → Option Value} {base : Heap} {CX : CXT} {j k : Nat} {f : Addr} {fd : FuncData} {ps : List Str} {sp : Sp} (F : FnG P w K mg base CX j f fd ps sp) (h : j ≤ k) : FnG P w K mg base CX k f fd ps sp :=
  ⟨F.len, fun A outer s H args us vs Q E hr => F.run A outer s H args us vs Q E (hr.mono h)⟩
theorem fn_ofG {CX : CXT} {P : Program} {w : World} {K : PySem.W.Frag} {mg : Str → Option Value} {base : Heap} {k : Nat} {f : Addr} {name qual : Str} {params : Arguments} {body : List Stmt} {scope : Scope} {dV kV doc pm cdv ct oc : Value} {an od : Option Addr}
    {osl : Array (Option Value)} {N ps : List Str} {sp : Sp} (lk : K.lookup f = some ⟨oc, od, .func (PySem.W.fnOf name qual params body scope dV kV doc pm an cdv ct), osl⟩) (hcd : PySem.W.codeIn K cdv qual = true) (S : FnScope N ps scope)
    (len : ∀ vs H Q E, sp vs H Q E → vs.length = ps.length)
    (hbody : ∀ (A : Around) (outer : List Env) (s : Shared) (H : Hp) (vs : List V) (Q : VK) (E : XK), Room k (A.deeper (envOfC qual scope s.heap.objs.size f cdv)) → A.guards = some [] → sp vs H Q E →
      ∃ t, PSs (cxOf CX P w K mg base N qual scope f cdv A outer s H E) body t ∧ t { nx := fun _ H' => Q .non H', rt := Q } (start N vs) H) :
    FnG P w K mg base CX (k + 1) f (PySem.W.fnOf name qual params body scope dV kV doc pm an cdv ct) ps sp := by
  refine ⟨len, fun A outer s H args us vs Q E hr hg e0 hb r hsp => ?_⟩
  have hl := len _ _ _ _ hsp
  have KX : K.In s.heap := e0.mod.kin.keeps fun b o e => (e0.bs b o e).1
  have lim : s.heap.NoLimit := e0.mod.nolimit.keeps fun b o e => (e0.bs b o e).1
  have hkind : ∀ y ∈ ps.zip us, scope.names.lookup y.1 = some .local ∨ (scope.names.lookup y.1 = some .cell ∧ ((cellsFrom (s.heap.objs.size + 1) scope.names []).lookup y.1).isSome = true) := fun ⟨n, v⟩ hy => by
    rcases S.par n (List.of_mem_zip hy).1 with q | q
    · exact .inl q
    · exact .inr ⟨q, PySem.W.cellsFrom_some _ _ _ (.inl q)⟩
  refine codeAny_call_function hr.depth (KX _ _ lk) rfl S.co S.gen rfl (PySem.W.codeRec_of KX hcd) (hb _ _ _ _ ?_)
  refine wpAny_newFunctionEnv_cells S.kind hkind fun env he s1 x => ?_
  subst he
  refine ⟨lim.keeps x.toInCall.keep, codeAny_func ?_⟩
  obtain ⟨t, ht, hq⟩ := hbody A outer s H vs Q E (hr.deeper _) hg hsp
  have I : Inv (cxOf CX P w K mg base N qual scope f cdv A outer s H E) [] (start N vs) H s1 := inv_start S hr.hd e0 hl r x
  refine wpAny_mono (ht.run [] s1 (start N vs) H _ I hq) (fun fl s' hs => ?_) fun e s' hs => hs
  have fin : ∀ {σ' : L2.St} {H' : Hp} {v : V} {u : Value}, Inv (cxOf CX P w K mg base N qual scope f cdv A outer s H E) [] σ' H' s' → RelV v u → Q v H' → CE outer P w H s Q u s' :=
    fun {σ' H' v u} J rv q => ⟨v, H', J.os, J.bare, J.base, J.hok, rv, q⟩
  cases fl with
  | ret u =>
    obtain ⟨v, σ', H', J, rv, q⟩ := hs
    exact fin J rv q
  | next =>
    obtain ⟨σ', H', J, q⟩ := hs
    exact fin (v := V.non) (u := Value.none) J rfl q
  | brk =>
    obtain ⟨_, _, _, q⟩ := hs
    exact False.elim q
  | cont =>
    obtain ⟨_, _, _, q⟩ := hs
    exact False.elim q
theorem okG {P : Program} {w : World} {K : PySem.W.Frag} {mg : Str → Option Value} {base : Heap} {x qual : Str} {st : Stmt} {f : Addr} {fd : FuncData} {N ps : List Str} {k : Nat} {sp : Sp} (F : L2.Fun K x qual st f fd) (S : FnScope N ps (defScope st)) (len : ∀ vs H Q E, sp vs H Q E → vs.length = ps.length)
    (hbody : ∀ (cdv : Value) (A : Around) (outer : List Env) (s : Shared) (H : Hp) (vs : List V) (Q : VK) (E : XK), Room k (A.deeper (envOfC qual (defScope st) s.heap.objs.size f cdv)) → A.guards = some [] → sp vs H Q E →
      ∃ t, PSs (cxOf CX0 P w K mg base N qual (defScope st) f cdv A outer s H E).nox (defBody st) t ∧ t { nx := fun _ H' => Q .non H', rt := Q } (start N vs) H) : FnG P w K mg base CX0 (k + 1) f fd ps sp := by
  obtain ⟨oc, od, kV, doc, pm, an, cdv, ct, osl, rfl, lk, hcd⟩ := F.ex
  refine fn_ofG lk hcd S len fun A outer s H vs Q E hr hg hsp => ?_
  obtain ⟨t, h, q⟩ := hbody cdv A outer s H vs Q E hr hg hsp
  exact ⟨t, h.nox, q⟩
theorem okGX {P : Program} {w : World} {K : PySem.W.Frag} {mg : Str → Option Value} {base : Heap} {x qual : Str} {st : Stmt} {f : Addr} {fd : FuncData} {N ps : List Str} {k : Nat} {sp : Sp} (F : L2.Fun K x qual st f fd) (S : FnScope N ps (defScope st)) (len : ∀ vs H Q E, sp vs H Q E → vs.length = ps.length)
    (hbody : ∀ (cdv : Value) (A : Around) (outer : List Env) (s : Shared) (H : Hp) (vs : List V) (Q : VK) (E : XK), Room k (A.deeper (envOfC qual (defScope st) s.heap.objs.size f cdv)) → A.guards = some [] → sp vs H Q E →
      ∃ t, PSs (cxOf (L2.CX P w) P w K mg base N qual (defScope st) f cdv A outer s H E) (defBody st) t ∧ t { nx := fun _ H' => Q .non H', rt := Q } (start N vs) H) : FnG P w K mg base (L2.CX P w) (k + 1) f fd ps sp := by
  obtain ⟨oc, od, kV, doc, pm, an, cdv, ct, osl, rfl, lk, hcd⟩ := F.ex
  exact fn_ofG lk hcd S len fun A outer s H vs Q E hr hg hsp => hbody cdv A outer s H vs Q E hr hg hsp
section
variable {X : Cx} {CX : CXT} {k : Nat} {f C : Addr} {fd : FuncData} {ps : List Str} {sp : Sp} {dvs : List V} {ds : List Value} {E : XK} {x m : Str} {p pos apos : Pos} {e o : Expr} {es : List Expr} {ta : TE} {t : TA}
theorem run_fnG {pins : List (Addr × Obj)} {σ : L2.St} {H : Hp} {s : Shared} {Q : VK} {us : List Value} {vs : List V} (F : FnG X.prog X.w X.K X.mg X.base CX k f fd ps sp) (hr : Room k X.A) (hgd : X.A.guards = some []) (hb : Binds X.K fd ps ds) (hd : Vals dvs ds) (hx : Passes CX X E)
    (I : Inv X pins σ H s) (r : Vals vs us) (h : sp (vs ++ dvs) H Q E) : wpAny (model X.prog X.w) X.A (call (.ref f) us) (EP X pins σ Q) X.xe s := by
  have r2 : Vals (vs ++ dvs) (us ++ ds) := r.append hd
  have hl : (us ++ ds).length = ps.length := by rw [← r2.length]; exact F.len _ _ _ _ h
  refine wpAny_call (codeAny_mono (F.run X.A X.stack s H ⟨us, []⟩ (us ++ ds) (vs ++ dvs) Q E hr hgd I.env0 (hb s us I.kIn hl) r2 h) fun r s' hq => ?_)
  cases r with
  | error e => exact hx pins σ H s e s' I hq
  | ok fl =>
    cases fl with
    | ret u => exact I.after hq
    | next => exact False.elim hq
    | brk => exact False.elim hq
    | cont => exact False.elim hq
theorem pe_callG (F : FnG X.prog X.w X.K X.mg X.base CX k f fd ps sp) (hr : Room k X.A) (hgd : X.A.guards = some []) (hg : Gl X x) (hm : X.mg x = some (.ref f)) (hk : PySem.W.keepIn X.K (.ref f) = true) (hb : Binds X.K fd ps ds) (hd : Vals dvs ds) (hx : Passes CX X E)
    (ha : PA X (e :: es) t) (hdb : (x == ("__debug__" : Str)) = false := by decide) (he : starEach (e :: es) X.env = (false, eval e X.env) :: starEach es X.env := by rfl) (hpl : (backTo pos (starEach es X.env)).any (·.1) = false := by rfl) :
    PE X (.Call (.Name x p) (e :: es) [] pos) (tCall sp dvs E t) := by
  refine ⟨fun pins s σ H Q I h => ?_⟩
  refine wpAny_Call_Name_kw (ld_glob I hg hm ?_ hdb)
  refine PySem.W.callWith_K (h₀ := X.base) I.ok.mod.kin hk (thn (ha.run pos pins s σ H _ I h) fun us s1 ⟨vs, H1, I1, r, q⟩ => ⟨I1.kIn, ?_⟩) he hpl
  exact run_fnG F hr hgd hb hd hx I1 r q
/-- repr of data -/
theorem call_reprD (hgd : X.A.guards = some []) (hu : X.A.units + 64 < cLine) : CallR X (.builtin "repr") (fun xs H Q => ∃ (x : V) (dt : PyData), xs = [x] ∧ Dp X.K H x dt ∧ dt.showable = true ∧ dt.hasDict = false ∧ dt.depth ≤ 60 ∧ dt.shown.length ≤ sizeLine ∧ Q (.str dt.shown) H) := by
  intro pins s σ H xs us Q I r h
  obtain ⟨x, dt, rfl, hD, h1, h2, h3, h4, q⟩ := h
  obtain ⟨u, rfl, ru⟩ := vals1 r
  obtain ⟨as, hr⟩ := Dp.reads I dt x u hD ru
  cases hD with
  | non =>
    cases (show u = Value.none from ru)
    exact PySem.P.repr_of_none ⟨.str _, H, I.tok _, ⟨_, rfl⟩, q⟩
  | bl b =>
    cases (show u = Value.bool b from ru)
    exact PySem.P.repr_of_bool ⟨.str _, H, I.tok _, ⟨_, rfl⟩, q⟩
  | int i =>
    obtain ⟨t, rfl⟩ := ru
    exact PySem.P.repr_of_int (of_decide_eq_true h1) ⟨.str _, H, I.tok _, ⟨_, rfl⟩, q⟩
  | str z =>
    obtain ⟨t, rfl⟩ := ru
    exact PySem.P.repr_of_str ⟨.str _, H, I.tok _, ⟨_, rfl⟩, q⟩ h4
  | lst hl ha =>
    cases ru
    refine repr_of_reads' hr h1 (fun z => by rw [h2] at z; cases z) hgd (by omega) (fun _ _ e => e) (fun h' u tk hk => ?_) h4
    exact ⟨.str _, H, (I.kept (t' := tk) hk), ⟨_, rfl⟩, q⟩
  | tup hl ha =>
    cases ru
    refine repr_of_reads' hr h1 (fun z => by rw [h2] at z; cases z) hgd (by omega) (fun _ _ e => e) (fun h' u tk hk => ?_) h4
    exact ⟨.str _, H, (I.kept (t' := tk) hk), ⟨_, rfl⟩, q⟩
end
end
/-! ### the law is called: no guard is up -/
section
open PySem PySem.Spec PyProof.Rows L2
theorem law_callG {P : Program} {w : World} {K : PySem.W.Frag} {mg mb : Str → Option Value} {CX : CXT} {k : Nat} {fa a : Addr} {fd : FuncData} {x : Str} {sp : Sp} {s₁ : Shared} {vs : List Value} {ns : List Int}
    (KX : K.In s₁.heap) (hns : s₁.heap.Ns mainGlobals mg) (hb : s₁.heap.Ns builtinsNs mb) (hbb : ∀ x : Str, x ≠ "__name__" → mb x = bootBuiltins x) (hlim : s₁.heap.NoLimit) (hg : s₁.gens = #[])
    (ha : s₁.heap.get? a = some { cls := .type "list", data := .seq vs.toArray }) (hi : IntsAre vs ns) (hl : ns.length ≤ sizeLine) (hr : Room k callerA)
    (F : ∀ base : Heap, K.In base → base.Ns mainGlobals mg → FnG P w K mg base CX k fa fd [x] sp) (hbind : ∀ (s : Shared) (u : Value), BindsTo s fd ⟨[u], []⟩ [(x, u)])
    (hsp : ∀ H : Hp, Only H → SqL K H a (ns.map V.int) → sp [.ref a] H (fun v _ => v = .bl true) fun _ _ _ => False)
    (hCX : ∀ H e s', CX [] H s₁ (fun _ _ _ => False) e s' → False) :
    codeAny (model P w) callerA (.call (.ref fa) ⟨[.ref a], []⟩) (fun r s' => r = .ok (.ret (.bool true)) ∧ OldK s₁.heap s'.heap ∧ s'.os = s₁.os ∧ AllBare s'.gens) s₁ := by
  have rv := vals_ints hi
  have lenV := hi.length
  -- from an abstract heap in which nothing but the script may be tracked
  have core : ∀ H : Hp, Only H → SqL K H a (ns.map V.int) → HOk P w H s₁.heap → (∀ b, H b ≠ none → b = a) → (H a ≠ none → K.lookup a = none) →
      codeAny (model P w) callerA (.call (.ref fa) ⟨[.ref a], []⟩) (fun r s' => r = .ok (.ret (.bool true)) ∧ OldK s₁.heap s'.heap ∧ s'.os = s₁.os ∧ AllBare s'.gens) s₁ := by
    intro H hO hS hok hA hK
    have base_of : ∀ {b : Addr} {o : Obj}, s₁.heap.get? b = some o → H b = none → (hidT s₁.heap H).get? b = some o := fun e n => hidT_get e n
    have noA : ∀ {b : Addr} {o : Obj} {es : Array DictEntry} {ep : Nat}, s₁.heap.get? b = some o → o.data = .dict es ep → H b = none := fun {b o es ep} e d => by
      cases q : H b with
      | none => rfl
      | some u =>
        have e' : b = a := hA b (by rw [q]; simp)
        subst e'
        rw [ha] at e; cases e
        have d' : Data.seq vs.toArray _ = Data.dict es ep := d
        cases d'
    have nsK : ∀ {b : Addr} {m : Str → Option Value}, s₁.heap.Ns b m → (hidT s₁.heap H).Ns b m := fun {b m} ⟨o, es, ep, e, d, r⟩ => ⟨o, es, ep, base_of e (noA e d), d, r⟩
    have hKb : K.In (hidT s₁.heap H) := fun b o e => base_of (KX b o e) (by
      cases q : H b with
      | none => rfl
      | some u =>
        have e' : b = a := hA b (by rw [q]; simp)
        subst e'
        rw [hK (by rw [q]; simp)] at e; cases e)
    have hM : Mod K mg (hidT s₁.heap H) := ⟨hKb, nsK hns, ⟨mb, nsK hb, hbb⟩, let ⟨mc, h1, h2⟩ := hlim; ⟨mc, nsK h1, h2⟩⟩
    have e0 : Env0 P w K mg (hidT s₁.heap H) callerA [] s₁ H := ⟨rfl, hM, fun b o e => of_hidT e, Nat.le_of_eq (hidT_size _ _), trivial, fun b hb => absurd (show b ∈ ([] : List Addr) from hb) (by simp), hok, .of_eq hg⟩
    refine codeAny_mono ((F _ hKb (nsK hns)).run callerA [] s₁ H ⟨[.ref a], []⟩ [.ref a] [.ref a] _ _ hr rfl e0 (hbind s₁ (.ref a)) (.cons rfl .nil) (hsp H hO hS)) fun r s' h => ?_
    cases r with
    | error e => exact (hCX H e s' h).elim
    | ok fl =>
      cases fl with
      | next => exact False.elim h
      | brk => exact False.elim h
      | cont => exact False.elim h
      | ret u =>
        obtain ⟨v, H', os, bare, un, hok', r', q⟩ := h
        have q' : v = .bl true := q
        subst q'
        obtain rfl : u = Value.bool true := r'
        refine ⟨rfl, OldK.of_keep fun b o e => ?_, os, bare⟩
        cases q : H b with
        | none => exact un.keep b o e q (by intro z; exact absurd (show b ∈ ([] : List Addr) from z) (by simp)) (by simp)
        | some u =>
          rcases hO b with z | ⟨ob, xs, z⟩
          · rw [q] at z; cases z
          · have z2 := un.frzs b ob _ z
            obtain ⟨e1, _⟩ := hok b _ z
            obtain ⟨e2, _⟩ := hok' b _ z2
            rw [e] at e1; cases e1
            exact e2
  cases hk : K.lookup a with
  | some o =>
    -- the script is one of the module's own objects
    have e := KX a o hk
    rw [ha] at e
    cases e
    refine core (fun _ => none) (fun _ => .inl rfl) (.inr ⟨_, vs.toArray, _, hk, rfl, rfl, rfl, by rw [List.size_toArray, lenV]; exact hl, by simpa using rv⟩) (fun b u z => by have z' : (none : Option HO) = some u := z; cases z') (fun b z => absurd rfl z) fun z => absurd rfl z
  | none =>
    refine core (fun b => if b = a then some (.frz { cls := .type "list", data := .seq vs.toArray } (.lst (ns.map V.int))) else none) (fun b => ?_) (.inl (.inr ⟨{ cls := .type "list", data := .seq vs.toArray }, if_pos rfl⟩)) (fun b u z => ?_) (fun b z => ?_) fun _ => hk
    · by_cases hb : b = a
      · exact .inr ⟨_, _, if_pos hb⟩
      · exact .inl (if_neg hb)
    · by_cases hb : b = a
      · have z' := (if_pos hb).symm.trans z
        cases z'
        subst hb
        exact ⟨ha, by rw [List.length_map]; exact hl, vs, _, rv, ha⟩
      · have z' := (if_neg hb).symm.trans z
        cases z'
    · by_cases hb : b = a
      · exact hb
      · exact absurd (if_neg hb) z
theorem walk_ofBG {l : PySem.W.OpenLaw} {n k : Nat} {q : Program} {loose : List Str} {XP : (Str → Option Value) → Heap → Prop} {YP : World → Heap → Prop} {d : DefRec} {K : Params → PySem.W.Frag} {CX : World → CXT} {sp : World → Sp} {x : Str}
    (hn : l.most = some n) (hn2 : n ≤ sizeLine) (hdf : d.params.defaults = []) (hr : Room k callerA)
    (hY : ∀ (w : World) (h : Heap), YP w h → (K w.params).In h)
    (F : ∀ (w : World) (mg : Str → Option Value) (fa : Addr) (h : Heap), (K w.params).In h → h.Ns mainGlobals mg → mg d.name = some (.ref fa) →
      ∃ fd : FuncData, (∀ (s : Shared) (u : Value), BindsTo s fd ⟨[u], []⟩ [(x, u)]) ∧
        ∀ base : Heap, (K w.params).In base → base.Ns mainGlobals mg → FnG l.prog w (K w.params) mg base (CX w) k fa fd [x] (sp w))
    (hsp : ∀ (w : World) (H : Hp) (a : Addr) (ns : List Int), ns.length ≤ n → (∀ z ∈ ns, Builtin.Int.intBits z ≤ 1048576) → Only H → SqL (K w.params) H a (ns.map V.int) → sp w [.ref a] H (fun v _ => v = .bl true) fun _ _ _ => False)
    (hCX : ∀ (w : World) (H : Hp) (s : Shared) (e : Value) (s' : Shared), CX w [] H s (fun _ _ _ => False) e s' → False) :
    PySem.W.WalkO q loose XP YP l.row.toRowW d [] (fun f vs => PySem.call f vs) := by
  refine Att.attach_callB hn hdf fun w s₀ s₁ mg mb fa o pm cd doc a vs ns G Y ho hd hcd hmg hobj hints hlen hbits hg => ?_
  have KX := hY w _ Y
  obtain ⟨fd, hb, hF⟩ := F w mg fa _ KX G.T.g hmg
  exact law_callG KX G.T.g G.T.b G.T.builtins G.T.nolimit hg hobj hints (Nat.le_trans hlen hn2) hr hF hb (fun H hO hS => hsp w H a ns hlen hbits hO hS) fun H e s' => hCX w H s₁ e s'
end
/-! ### what is never reached -/
section
variable {X : Cx}
theorem ps_no {st : Stmt} : PS X st (fun _ _ _ => False) := ⟨fun _ _ _ _ _ _ h => h.elim⟩
theorem xfc {P : Program} {K : PySem.W.Frag} {C fI : Addr} {st : Stmt} {q : Str} {ps : List Str} {fs : List (Str × Sum Nat Str)} (T : ErrC P K C fI st q ps fs) : XfC K C := ⟨T.ga, T.gg, T.exC, T.hdC⟩
end
theorem for_nil {K : PySem.W.Frag} {a : Addr} {g : TG} {tb : TS} {D : Ends} {σ : L2.St} {H : Hp} (hl : SqL K H a []) (hd : D.nx σ H) :
    ∃ W : Nat → Nat → L2.St → Hp → Prop, (∃ m, W 0 m σ H) ∧ ∀ i m σ H, W i m σ H →
      ((Itl K a).stop i H ∧ D.nx σ H) ∨ ((Itl K a).go i H ∧ ∃ N : L2.St → Hp → Prop, (∀ σ' H', N σ' H' → ∃ m', m' < m ∧ W (i + 1) m' σ' H') ∧ ∀ x H', (Itl K a).yld i H x H' → g x σ H' fun σ2 H2 => tb { D with nx := N, ct := N, bk := D.nx } σ2 H2) :=
  for_list (xs := []) (fun _ σ' H' => σ' = σ ∧ H' = H) ⟨rfl, rfl⟩ (fun i σ' H' _ p => p.2 ▸ hl) (fun i x σ' H' e _ => by simp at e) (fun σ' H' p => by rw [p.1, p.2]; exact hd)
/-! ### o.m(e, .., k = v, ..), with a wish by the slots -/
section
open PySem PySem.Spec PyProof.Rows
variable {X : Cx} {CX : CXT} {k n : Nat} {f C : Addr} {fd : FuncData} {ps ks : List Str} {sp : Sp} {E : L2.St → XK} {m : Str} {pos apos : Pos} {e o : Expr} {es : List Expr} {kws : List Keyword} {ta : TE} {t tk : TA} {g : List Value → List Value → List Value} {gV : List V → List V → List V}
def tMethK (C : Addr) (m : Str) (n j : Nat) (sp : Sp) (gV : List V → List V → List V) (E : L2.St → XK) (to : TE) (ta tk : TA) : TE := fun σ H Q => to σ H fun x H1 => ∃ a dx fs, x = .ref a ∧ H1 a = some (.ins C dx fs) ∧ fs.lookup m = none ∧ ta σ H1 fun vs H2 => tk σ H2 fun zs H3 => vs.length = n ∧ zs.length = j ∧ sp (gV (.ref a :: vs) zs) H3 Q (E σ)
theorem run_kw {pins : List (Addr × Obj)} {σ : L2.St} {H : Hp} {s : Shared} {Q : VK} {us ws : List Value} {vs zs : List V} (F : FnOk X.prog X.w X.K X.mg X.base CX k f fd ps sp) (hr : Room k X.A) (hb : KBn X.K fd ps n ks g gV) (hx : PassesAt CX X σ (E σ))
    (I : Inv X pins σ H s) (r : Vals vs us) (rz : Vals zs ws) (l1 : vs.length = n) (l2 : zs.length = ks.length) (h : sp (gV vs zs) H Q (E σ)) : wpAny (model X.prog X.w) X.A (call (.ref f) us (ks.zip ws)) (EP X pins σ Q) X.xe s := by
  have bt := hb.to s us ws I.kIn (r.length.symm.trans l1) (rz.length.symm.trans l2)
  refine wpAny_call (codeAny_mono (F.run X.A X.stack s H ⟨us, ks.zip ws⟩ (g us ws) (gV vs zs) Q (E σ) hr I.env0 bt (hb.rel r rz) h) fun q s' hq => ?_)
  match q, hq with
  | .error e, hq => exact hx pins H s e s' I hq
  | .ok (.ret u), hq => exact I.after hq
  | .ok .next, hq => exact hq.elim
  | .ok .brk, hq => exact hq.elim
  | .ok .cont, hq => exact hq.elim
theorem pe_methK {pl : Sem Bool} (ho : PE X o ta) (c : Cls X.K C) (hm : Meth X.K C m f) (F : FnOk X.prog X.w X.K X.mg X.base CX k f fd ps sp) (hr : Room k X.A) (hb : KBn X.K fd ps (n + 1) ks g gV) (hx : ∀ σ, PassesAt CX X σ (E σ)) (ha : PA X (e :: es) t) (hkw : PK X kws tk)
    (hall : (backToKw pos (keywordEach kws X.env)).all (·.1.isSome) = true := by rfl) (hks : (backToKw pos (keywordEach kws X.env)).filterMap (·.1) = ks := by rfl)
    (hst : starEach (e :: es) X.env = (false, eval e X.env) :: starEach es X.env := by rfl) (hpl : ((backTo pos (starEach (e :: es) X.env)).any (·.1) || (backToKw pos (keywordEach kws X.env)).any (·.1.isNone)) = false := by rfl)
    (ht : eval (.Call (.Attribute o m apos) (e :: es) kws pos) X.env = (do
      let ov ← eval o X.env
      standAt apos.atName
      let (f, first) ← holding [ov] (getMethod ov m pl)
      callWith pos f first (backTo pos (starEach (e :: es) X.env)) (backToKw pos (keywordEach kws X.env))) := by rfl) :
    PE X (.Call (.Attribute o m apos) (e :: es) kws pos) (tMethK C m n ks.length sp gV E ta t tk) := by
  refine ⟨fun pins s σ H Q I h => ?_⟩
  refine PySem.W.methodCall_KW (pl := pl) (thn (ho.run pins s σ H _ I h) fun u s1 ⟨x, H1, I1, rx, a, dx, fs, ex, ea, l, q⟩ => ?_) ht
  subst ex
  cases (show u = Value.ref a from rx)
  refine getmeth_ok I1 ea c hm l (PySem.W.callWith_KW (first := [.ref a]) (h₀ := X.base) I.ok.mod.kin hm.kp hall (thn (ha.run pos pins s1 σ H1 _ I1 q) fun us s2 ⟨vs, H2, I2, r, q2⟩ => ?_) hpl hst)
  refine thn (hkw.run pos pins s2 σ H2 _ I2 q2) fun ws s3 ⟨zs, H3, I3, rz, l1, l2, q3⟩ => ⟨I3.kIn, ?_⟩
  rw [hks]
  exact run_kw (us := .ref a :: us) (vs := .ref a :: vs) F hr hb (hx σ) I3 (.cons rfl r) rz (congrArg Nat.succ l1) l2 q3
end
/-! ### defs called while an exception is handled: its object stands aside -/
section
open PySem PySem.Spec PyProof.Rows
structure FnP (P : Program) (w : World) (K : PySem.W.Frag) (mg : Str → Option Value) (base : Heap) (CX : CXT) (k : Nat) (f : Addr) (fd : FuncData) (ps : List Str) (sp : Sp) : Prop where
  len : ∀ vs H Q E, sp vs H Q E → vs.length = ps.length
  run : ∀ (A : Around) (outer : List Env) (s : Shared) (H : Hp) (args : Args) (us : List Value) (vs : List V) (Q : VK) (E : XK) (p : Addr × Obj), L2H.RoomH k A → L2H.PinOk outer H s p → Env0 P w K mg base A outer s H → BindsTo s fd args (ps.zip us) → Vals vs us → sp vs H Q E →
    codeAny (model P w) A (.call (.ref f) args) (CR CX outer P w H s Q E) s
theorem fn_ofP {CX : CXT} {P : Program} {w : World} {K : PySem.W.Frag} {mg : Str → Option Value} {base : Heap} {k : Nat} {f : Addr} {name qual : Str} {params : Arguments} {body : List Stmt} {scope : Scope} {dV kV doc pm cdv ct oc : Value} {an od : Option Addr}
    {osl : Array (Option Value)} {N ps : List Str} {sp : Sp} (lk : K.lookup f = some ⟨oc, od, .func (PySem.W.fnOf name qual params body scope dV kV doc pm an cdv ct), osl⟩) (hcd : PySem.W.codeIn K cdv qual = true) (S : FnScope N ps scope)
    (len : ∀ vs H Q E, sp vs H Q E → vs.length = ps.length)
    (hbody : ∀ (A : Around) (outer : List Env) (s : Shared) (H : Hp) (vs : List V) (Q : VK) (E : XK) (p : Addr × Obj), L2H.RoomH k (A.deeper (envOfC qual scope s.heap.objs.size f cdv)) → sp vs H Q E →
      ∃ t, PSs (L2H.cxH CX P w K mg base N qual scope f cdv A outer s H E p) body t ∧ t { nx := fun _ H' => Q .non H', rt := Q } (L2.start N vs) H) :
    FnP P w K mg base CX (k + 1) f (PySem.W.fnOf name qual params body scope dV kV doc pm an cdv ct) ps sp := by
  refine ⟨len, fun A outer s H args us vs Q E p hr hp e0 hb r hsp => ?_⟩
  have kk : ∀ b o, base.get? b = some o → s.heap.get? b = some o := fun b o e => (e0.bs b o e).1
  have KX : K.In s.heap := e0.mod.kin.keeps kk
  have hk2 : ∀ y ∈ ps.zip us, scope.names.lookup y.1 = some .local ∨ (scope.names.lookup y.1 = some .cell ∧ ((cellsFrom (s.heap.objs.size + 1) scope.names []).lookup y.1).isSome = true) := fun y hy =>
    (S.par y.1 (List.of_mem_zip (a := y.1) (b := y.2) hy).1).imp id fun q => ⟨q, PySem.W.cellsFrom_some _ _ _ (.inl q)⟩
  refine codeAny_call_function hr.depth (KX _ _ lk) rfl S.co S.gen rfl (PySem.W.codeRec_of KX hcd) (hb _ _ _ _ (wpAny_newFunctionEnv_cells S.kind hk2 fun env he s1 x => ?_))
  subst he
  refine ⟨(e0.mod.nolimit.keeps kk).keeps x.toInCall.keep, codeAny_func ?_⟩
  obtain ⟨t, ht, hq⟩ := hbody A outer s H vs Q E p (hr.deeper _) hsp
  refine wpAny_mono (ht.run [] s1 _ H _ (L2H.inv_startH S hp e0 (len _ _ _ _ hsp) r x) hq) (fun fl s' hs => ?_) fun e s' hs => hs
  match fl, hs with
  | .ret u, ⟨v, σ', H', J, rv, q⟩ => exact ⟨v, H', J.os, J.bare, J.base, J.hok, rv, q⟩
  | .next, ⟨σ', H', J, q⟩ => exact ⟨.non, H', J.os, J.bare, J.base, J.hok, rfl, q⟩
  | .brk, ⟨_, _, _, q⟩ => exact q.elim
  | .cont, ⟨_, _, _, q⟩ => exact q.elim
theorem okP {P : Program} {w : World} {K : PySem.W.Frag} {mg : Str → Option Value} {base : Heap} {x qual : Str} {st : Stmt} {f : Addr} {fd : FuncData} {N ps : List Str} {k : Nat} {sp : Sp} (F : L2.Fun K x qual st f fd) (S : FnScope N ps (defScope st)) (len : ∀ vs H Q E, sp vs H Q E → vs.length = ps.length)
    (hbody : ∀ (cdv : Value) (A : Around) (outer : List Env) (s : Shared) (H : Hp) (vs : List V) (Q : VK) (E : XK) (p : Addr × Obj), L2H.RoomH k (A.deeper (envOfC qual (defScope st) s.heap.objs.size f cdv)) → sp vs H Q E →
      ∃ t, PSs (L2H.cxH CX0 P w K mg base N qual (defScope st) f cdv A outer s H E p).nox (defBody st) t ∧ t { nx := fun _ H' => Q .non H', rt := Q } (L2.start N vs) H) : FnP P w K mg base CX0 (k + 1) f fd ps sp := by
  obtain ⟨oc, od, kV, doc, pm, an, cdv, ct, osl, rfl, lk, hcd⟩ := F.ex
  refine fn_ofP lk hcd S len fun A outer s H vs Q E p hr hsp => ?_
  obtain ⟨t, h, q⟩ := hbody cdv A outer s H vs Q E p hr hsp
  exact ⟨t, h.nox, q⟩
section
variable {X : Cx} {CX : CXT} {k : Nat} {C p g a dx : Addr} {fs : List (Str × V)} {f : Str} {fd : FuncData} {ps : List Str} {sp : Sp} {dvs : List V} {ds : List Value} {E : XK} {e : Expr} {pos : Pos} {ta : TE}
/-- the exception that is handled stands aside here -/
def Aside (X : Cx) : Prop := ∃ q : Addr × Obj, q ∈ X.pn
theorem Aside.pin {pins : List (Addr × Obj)} {σ : L2.St} {H : Hp} {s : Shared} (h : Aside X) (I : Inv X pins σ H s) : ∃ q, L2H.PinOk X.stack H s q := by
  obtain ⟨q, hq⟩ := h
  obtain ⟨p1, p2, p3, p4, p5⟩ := I.pin q (List.mem_append_left _ hq)
  exact ⟨q, p1, p2, fun hm => (List.mem_cons.mp (I.stkSub q.1 hm)).elim p3 p4, p5⟩
/-- e.f, a property, there -/
theorem pe_propP (he : PE X e ta) (c : Cls X.K C) (hp : PropOf X.K C f p g) (F : FnP X.prog X.w X.K X.mg X.base CX0 k g fd ps sp) (hr : L2H.RoomH (k + 1) X.A) (hs : Aside X) (hb : Binds X.K fd ps ds) (hd : Vals dvs ds)
    (hab : attributeBase e f X.env (eval e X.env) = eval e X.env) : PE X (.Attribute e f pos) (tProp C sp dvs E0 ta) := by
  refine ⟨fun pins s σ H Q I h => ?_⟩
  refine attr_of hab (thn (he.run pins s σ H _ I h) fun u s1 ⟨x, H1, I1, rx, a, dx, fs, ex, ea, q⟩ => ?_)
  subst ex
  cases (show u = Value.ref a from rx)
  obtain ⟨mA, O, _, _, _, _⟩ := ins_get I1.hok ea
  obtain ⟨od, J, _⟩ := O.look
  obtain ⟨rest, hrec⟩ := hp.rec_
  have I2 := I1.tok (s1.toks + 1)
  obtain ⟨pq, hpq⟩ := hs.pin I2
  have hl : ([Value.ref a] ++ ds).length = ps.length := by
    have l1 := F.len _ _ _ _ q
    have l2 := hd.length
    simp only [List.length_append, List.length_cons, List.length_nil] at l1 ⊢
    omega
  have hc : (PySem.W.clsIn X.K C).isSome = true := by
    obtain ⟨cd, hc, _⟩ := PySem.W.any_some c.hd
    rw [hc]; rfl
  have pg := PySem.W.plainGet_of (c.get f)
  refine PySem.W.get_bind I1.kIn J pg.1 (PySem.W.findObj_data hc hp.at_ hp.get hp.tak) pg.2 (wpAny_call (PySem.W.prop_get (s := { s1 with toks := s1.toks + 1 }) I1.kIn hrec ?_))
  refine codeAny_mono (F.run X.A.in1 X.stack { s1 with toks := s1.toks + 1 } H1 ⟨[.ref a], []⟩ (.ref a :: ds) (.ref a :: dvs) Q _ pq ⟨by have := hr.dp; show X.A.depth + 3 * k + 5 < _; omega, by have := hr.un; show X.A.units + 1 + 16 * k + 200 < _; omega⟩ hpq I2.env0.in1 (hb _ [.ref a] I2.kIn hl) (.cons rfl hd) q) fun r s' hq => ?_
  match r, hq with
  | .error er, hq => exact hq.elim
  | .ok (.ret u), hq =>
    obtain ⟨v, H', I3, rv, q3⟩ := I2.after hq
    show wpAny _ _ (handedOut u) _ _ _
    rw [PySem.W.handedOut_of (handed_of rv)]
    exact wpAny_pure ⟨v, H', I3, rv, q3⟩
  | .ok .next, hq => exact hq.elim
  | .ok .brk, hq => exact hq.elim
  | .ok .cont, hq => exact hq.elim
end
end
/-! ### sets of texts -/
section
open PySem PySem.Spec PyProof.Rows
def keyT (e : Int × Value) : Str := match e.2 with
  | .str k _ => k
  | _ => Str.empty
/-- a table with the texts l, each once -/
structure TsOk (w : World) (es : Array (Int × Value)) (t : SetTable) (l : List Str) : Prop where
  good : ∀ e ∈ es.toList, ∃ k u, e = (hashStr w k, Value.str k u)
  perm : (es.toList.map keyT).Perm l
  nd : l.Nodup
  few : es.size < scanBound
  fit : t.fits es.size = true
  ris : L2.Ris t.place.toList
  led : w.params.followText "set-order" = true ∨ t.led = true
def TSet (w : World) (h : Heap) (a : Addr) (l : List Str) : Prop := ∃ o es ep t, h.get? a = some o ∧ o.ExactSet ∧ o.data = .set es ep t ∧ TsOk w es t l
section
variable {P : Program} {w : World} {h h' : Heap} {a : Addr} {l : List Str} {es : Array (Int × Value)} {t : SetTable}
theorem TSet.at (R : TSet w h a l) (k : ∀ o, h.get? a = some o → h'.get? a = some o) : TSet w h' a l := by
  obtain ⟨o, es, ep, t, ho, r⟩ := R
  exact ⟨o, es, ep, t, k o ho, r⟩
theorem str_isS (k : Str) (u : Tok) : (PySem.strKind P w).is k (.str k u) = true := by
  show Value.isStrOf k (.str k u) = true
  simp [Value.isStrOf]
theorem TsOk.elems (T : TsOk w es t l) : ElemsOf (PySem.strKind P w) es.toList := fun e he => by
  obtain ⟨k, u, rfl⟩ := T.good e he
  exact ⟨⟨k, str_isS k u, rfl⟩, rfl⟩
theorem TsOk.size (T : TsOk w es t l) : es.size = l.length := by
  have := T.perm.length_eq
  rwa [List.length_map, Array.length_toList] at this
theorem TsOk.is (T : TsOk w es t l) {e : Int × Value} (he : e ∈ es.toList) (k : Str) : (PySem.strKind P w).is k e.2 = true ↔ keyT e = k := by
  obtain ⟨j, u, rfl⟩ := T.good e he
  constructor
  · intro q
    exact ((PySem.strKind P w).inj (.str j u) k j q (str_isS j u)).symm
  · rintro rfl
    exact str_isS j u
theorem TsOk.mem (T : TsOk w es t l) (k : Str) : k ∈ l ↔ ∃ e ∈ es.toList, (PySem.strKind P w).is k e.2 = true := by
  rw [← T.perm.mem_iff, List.mem_map]
  exact ⟨fun ⟨e, he, q⟩ => ⟨e, he, (T.is he k).2 q⟩, fun ⟨e, he, q⟩ => ⟨e, he, (T.is he k).1 q⟩⟩
theorem TSet.setOf (R : TSet w h a l) : h.SetOf (PySem.strKind P w) a (fun k => decide (k ∈ l)) l.length := by
  obtain ⟨o, es, ep, t, ho, hx, hd, T⟩ := R
  exact ⟨o, es, ep, t, ho, hx, hd, T.elems, fun k => by rw [decide_eq_true_eq]; exact T.mem k, T.few, T.fit, T.size⟩
theorem TsOk.relay (T : TsOk w es t l) : TsOk w (relayAll t es (SetTable.grown es.size)).1 (relayAll t es (SetTable.grown es.size)).2.1 l := by
  have pm := relayAll_perm t es (SetTable.grown es.size)
  have hs : (relayAll t es (SetTable.grown es.size)).1.size = es.size := by rw [← Array.length_toList, pm.length_eq, Array.length_toList]
  exact ⟨fun e he => T.good e (pm.mem_iff.mp he), (pm.map keyT).trans T.perm, T.nd, by rw [hs]; exact T.few, relayAll_fits t es _, L2.relayAll_ris t es _, T.led.imp id fun z => by rw [L2.relayAll_led]; exact z⟩
theorem TsOk.off (T : TsOk w es t l) : TsOk w es { t with plain := false } l := ⟨T.good, T.perm, T.nd, T.few, SetTable.fits_plain_off T.fit, T.ris, T.led⟩
theorem TsOk.lay (T : TsOk w es t l) {k : Str} (u : Tok) (hk : k ∉ l) (room : l.length + 1 < scanBound) : TsOk w (layNew t es (hashStr w k) (.str k u)).1 (layNew t es (hashStr w k) (.str k u)).2.1 (k :: l) := by
  have pm := layNew_perm t es (hashStr w k) (.str k u)
  rw [Array.toList_push] at pm
  have pc := pm.trans (List.perm_append_singleton _ _)
  have pk : _ = _ := (pc.map keyT).length_eq
  have hs : (layNew t es (hashStr w k) (.str k u)).1.size = l.length + 1 := by
    rw [← Array.length_toList, pc.length_eq, List.length_cons, Array.length_toList, T.size]
  refine ⟨fun e he => ?_, (pc.map keyT).trans (T.perm.cons _), List.nodup_cons.mpr ⟨hk, T.nd⟩, by rw [hs]; exact room, layNew_fits t es _ _, L2.layNew_ris t es _ _ T.ris, T.led.imp id fun z => by rw [L2.layNew_led]; exact z⟩
  rcases List.mem_cons.mp (pc.mem_iff.mp he) with z | z
  · exact ⟨k, u, z⟩
  · exact T.good e z
theorem TSet.new (w : World) (h : Heap) : TSet w (h.push { cls := .type "set", dict := none, data := .set #[] 0 (.fresh 0 0 (!w.params.followText "set-order")) }) h.objs.size [] := by
  refine ⟨_, #[], 0, _, Heap.get?_push_size _ rfl, ⟨rfl, rfl, rfl⟩, rfl, (fun e he => by simp at he), by simp, List.nodup_nil, by decide, by rfl, List.Pairwise.nil, ?_⟩
  show _ ∨ (!w.params.followText "set-order") = true
  cases w.params.followText "set-order" <;> simp
end
/-- with k -/
def addT (k : Str) (l : List Str) : List Str := if k ∈ l then l else k :: l
theorem addT_mem {k j : Str} {l : List Str} : j ∈ addT k l ↔ j = k ∨ j ∈ l := by
  unfold addT
  split
  · rename_i h
    exact ⟨.inr, fun z => z.elim (fun e => e ▸ h) id⟩
  · exact List.mem_cons
theorem addT_nd {k : Str} {l : List Str} (h : l.Nodup) : (addT k l).Nodup := by
  unfold addT
  split
  · exact h
  · rename_i q
    exact List.nodup_cons.mpr ⟨q, h⟩
theorem addT_len {k : Str} {l : List Str} : (addT k l).length ≤ l.length + 1 := by
  unfold addT
  split <;> simp
section
variable {P : Program} {w : World} {A : Around} {E : Value → Shared → Prop} {s : Shared} {a : Addr} {l : List Str}
theorem ts_tail {g : Bool → Sem Unit} (hg : ∀ (b : Bool) (z : Shared) (q : Unit → Shared → Prop), q () z → wpAny (model P w) A (g b) q E z) {o : Obj} {es es1 : Array (Int × Value)} {ep : Nat} {t t2 : SetTable} (ho : s.heap.get? a = some o) (hex : o.ExactSet) (hd : o.data = .set es ep t)
    (T : TsOk w es1 t2 l) {wd : Bool} {R : Option Bool → Shared → Prop} (hR : ∀ h', Heap.SameBut a s.heap h' → TSet w h' a l → R (some true) { s with heap := h' }) :
    wpAny (model P w) A (do
        storeSet a es1 t2
        if (!wd && t2.tooFull) = true then do
            g (relayAll t2 es1 (SetTable.grown es1.size)).2.2
            storeSet a (relayAll t2 es1 (SetTable.grown es1.size)).1 (relayAll t2 es1 (SetTable.grown es1.size)).2.1
            pure (some true)
          else pure (some true)) R E s := by
  have sb := Heap.SameBut.update s.heap a (Obj.putSet es1 t2)
  have ho1 := L2.store_at (es' := es1) (t' := t2) ho hd
  refine wpAny_bind (wpAny_storeSet_of ho hd ?_ (fits_of_scanBound T.few))
  split
  · have T2 := T.relay
    generalize relayAll t2 es1 (SetTable.grown es1.size) = Z at T2 ⊢
    obtain ⟨es2, t3, gv⟩ := Z
    dsimp only at T2 ⊢
    refine wpAny_bind (hg _ _ _ (wpAny_bind (wpAny_storeSet_of ho1 rfl ?_ (fits_of_scanBound T2.few))))
    exact wpAny_pure (hR _ (sb.trans (Heap.SameBut.update _ a _)) ⟨_, es2, _, t3, L2.store_at (es' := es2) (t' := t3) ho1 rfl, hex, rfl, T2⟩)
  · exact wpAny_pure (hR _ sb ⟨_, es1, _, t2, ho1, hex, rfl, T⟩)
theorem ts_addH {k : Str} {u : Tok} {Q : Bool → Shared → Prop} (R : TSet w s.heap a l) (room : l.length + 1 < scanBound) (hQ : ∀ h' b, Heap.SameBut a s.heap h' → TSet w h' a (addT k l) → Q b { s with heap := h' }) :
    wpAny (model P w) A (setAddHashed a (.str k u) ((PySem.strKind P w).hash k)) Q E s := by
  obtain ⟨o, es, ep, t, ho, hex, hd, T⟩ := R
  have hel : ElemsOf (PySem.strKind P w) es.toList := T.elems
  have hgw : ∀ (b : Bool) (z : Shared) (q : Unit → Shared → Prop), q () z → wpAny (model P w) A (match b with | true => rule "set.scan.the-table-gave-way" | false => pure ()) q E z := fun b z q hq => by
    cases b
    · exact wpAny_pure hq
    · exact wpAny_rule hq
  unfold setAddHashed setAddHashedIn
  refine wpAny_holding (wpAny_bind (wpAny_setState_of ho hd T.fit ?_))
  dsimp only
  rw [byScan_of (show (Value.str k u).scannable = true from rfl) T.few hel]
  simp only [↓reduceIte]
  unfold setAddByScan
  refine wpAny_bind (wpAny_bind (wpAny_rule (wpAny_bind (wpAny_setScan_of (str_isS k u) ho hd T.fit hel ?_))))
  cases hfi : List.findIdx? (fun e => (PySem.strKind P w).is k e.2) es.toList with
  | some j =>
    dsimp only
    obtain ⟨hj, pj, _⟩ := List.findIdx?_eq_some_iff_getElem.mp hfi
    have hk : k ∈ l := (T.mem (P := P) k).2 ⟨_, List.getElem_mem hj, pj⟩
    refine wpAny_pure (wpAny_pure (hQ s.heap _ (Heap.SameBut.refl a s.heap) ?_))
    rw [show addT k l = l from if_pos hk]
    exact ⟨o, es, ep, t, ho, hex, hd, T⟩
  | none =>
    dsimp only
    have hk : k ∉ l := fun z => by
      obtain ⟨e, he, q⟩ := (T.mem (P := P) k).1 z
      have c := List.findIdx?_eq_none_iff.mp hfi e he
      rw [q] at c; cases c
    rw [show addT k l = k :: l from if_neg hk] at hQ
    have T1 : TsOk w (layNew t es ((PySem.strKind P w).hash k) (.str k u)).1 (layNew t es ((PySem.strKind P w).hash k) (.str k u)).2.1 (k :: l) := T.lay u hk room
    generalize layNew t es ((PySem.strKind P w).hash k) (.str k u) = Z at T1 ⊢
    obtain ⟨es1, t1, wd, gv⟩ := Z
    dsimp only at T1 ⊢
    refine wpAny_bind (hgw _ _ _ ?_)
    split
    · refine wpAny_bind ?_
      rw [hashByValue_scannable 8 (x := Value.str k u) rfl]
      refine wpAny_pure (ts_tail (l := k :: l) ?_ ho hex hd ?_ fun h' sb r => ?_)
      · exact fun b z q hq => hgw b z q hq
      · split
        · exact T1
        · exact T1.off
      · dsimp only
        exact wpAny_pure (hQ h' _ sb r)
    · refine wpAny_bind (wpAny_pure ?_)
      simp only [↓reduceIte]
      refine ts_tail ?_ ho hex hd T1 fun h' sb r => ?_
      · exact fun b z q hq => hgw b z q hq
      · dsimp only
        exact wpAny_pure (hQ h' _ sb r)
end
end
/-! ### sets of texts, tracked: add, comprehensions, sorted -/
section
open PySem PySem.Spec PyProof.Rows
def TSO (w : World) (a : Addr) (l : List Str) : HO := .ext fun h => TSet w h a l
theorem tso_new {w : World} {P : Program} {H : Hp} {h : Heap} {a : Addr} {l : List Str} (R : TSet w h a l) : ObjOk P w H h a (TSO w a l) := by
  have ⟨o, _, _, _, ho, _⟩ := R
  exact ⟨R, ⟨o, ho⟩, fun _ _ q k => q.at k⟩
section
variable {X : Cx}
theorem tso_get {pins : List (Addr × Obj)} {σ : L2.St} {H : Hp} {s : Shared} {a : Addr} {l : List Str} (I : Inv X pins σ H s) (ha : H a = some (TSO X.w a l)) : TSet X.w s.heap a l := (I.hok a _ ha).1
theorem ts_add {pins : List (Addr × Obj)} {σ : L2.St} {H : Hp} {s : Shared} {E : Value → Shared → Prop} {D : Addr} {l : List Str} {k : Str} {u : Tok} {Q : Value → Shared → Prop} (I : Inv X pins σ H s) (hD : H D = some (TSO X.w D l)) (room : l.length + 1 < scanBound)
    (h : ∀ s', Inv X pins σ (upd H D (TSO X.w D (addT k l))) s' → Q .none s') : wpAny (model X.prog X.w) X.A (call (.builtin "set.add") [.ref D, .str k u]) Q E s := by
  have R := tso_get I hD
  have hS : s.heap.SetOf (PySem.strKind X.prog X.w) D (fun k => decide (k ∈ l)) l.length := R.setOf
  refine wpAny_call_entry F.slot_set_add hS.typeIs F.entry_set_add ?_ (F.args_set_add_2 _ _)
  unfold Builtin.«set.add» Builtin.Frozenset.oneOther
  simp only [List.isEmpty_nil, bind_assoc]
  unfold Builtin.Frozenset.addrOf setAdd
  refine wpAny_bind (wpAny_pure ?_)
  try dsimp only
  refine wpAny_bind (wpAny_pure ?_)
  try dsimp only
  refine wpAny_bind (wpAny_holding (wpAny_bind ((PySem.strKind X.prog X.w).pyHash (str_isS k u) (ts_addH (s := { s with toks := s.toks + 1 }) R room fun h' b sb new => ?_))))
  have he : ∃ v, h'.get? D = some v := let ⟨o, _, _, _, ho, _⟩ := new; ⟨o, ho⟩
  exact wpAny_pure ⟨_, rfl, h _ (I.write (e := D) (t' := s.toks + 1) (by rw [hD]; trivial) (.inl rfl) (fun b v hb hu => (sb.2 b hb).trans hu) he (tso_new new))⟩
/-- {elt for target in iter if ..}, elt a text: D the new set -/
def tScT (w : World) (wi : TI) (g : TG) (tt : TT) (te : TE) (vs : List Nat) : TE := fun σ H Q => wi σ H fun J H1 => ∀ D, H1 D = none → ∃ W : Nat → Nat → Hp → Prop, (∃ m, W 0 m (upd H1 D (TSO w D []))) ∧ ∀ i m H, W i m H →
  (J.stop i H ∧ Q (.ref D) H) ∨ (J.go i H ∧ ∃ Nx : Hp → Prop, (∀ H', Nx H' → ∃ m', m' < m ∧ W (i + 1) m' H') ∧ ∀ x H', J.yld i H x H' → g x (wipe σ vs) H' fun σ2 H2 => wipe σ2 vs = wipe σ vs ∧ tt σ2 H2 fun b H3 =>
    if b = true then te σ2 H3 fun y H4 => ∃ (c : Str) (l : List Str), y = .str c ∧ H4 D = some (TSO w D l) ∧ l.length + 1 < scanBound ∧ Nx (upd H4 D (TSO w D (addT c l))) else Nx H3)
theorem pe_scT {elt tg iter : Expr} {ifs : List Expr} {scope : Scope} {own : List (Str × Nat)} {pos : Pos} {wi : TI} {g : TG} {tt : TT} {te : TE} (hc : X.calm = true) (hN : X.N.Nodup) (hi : PI X tg iter wi) (ok : BlkOk X.N X.env.scope scope own)
    (hg : ∀ (s : Shared) (H : Hp) (C : Addr) (cl : List (Str × Addr)) (fp : List Addr), PG (X.blk s H scope (compEnvC scope cl C X.env) fp) tg g) (ht : ∀ (s : Shared) (H : Hp) (C : Addr) (cl : List (Str × Addr)) (fp : List Addr), PTs (X.blk s H scope (compEnvC scope cl C X.env) fp) ifs tt)
    (he : ∀ (s : Shared) (H : Hp) (C : Addr) (cl : List (Str × Addr)) (fp : List Addr), PE (X.blk s H scope (compEnvC scope cl C X.env) fp) elt te) (hs : ∀ x, foldedSetIterable iter X.env x = pure x := by intro _; rfl) :
    PE X (.SetComp elt [⟨tg, iter, ifs, 0⟩] scope pos) (tScT X.w wi g tt te (own.map (·.2))) := by
  refine ⟨fun pins s σ H Q I h => ?_⟩
  rw [PpSet.eval_SetComp]
  have fr : ∀ y ∈ scope.names, y.2 = .free → ∃ c, X.env.cells.lookup y.1 = some c := fun y hy e => (ok.free y hy e).elim (fun k => I.ok.has _ (.inl k)) fun k => I.ok.has _ (.inr k)
  refine wpAny_comprehension_free (use := none) rfl hs (closure_ok fr) ok.kind (fun y hy e => by rw [ok.uniq y hy, e]) (thn (hi.run pins s σ H _ I h) fun xv s1 hx => thn hx fun itv s2 h2 => ?_)
  obtain ⟨it, fp, tn, J, H2, rfl, I2, T, st2, f2, q⟩ := h2
  refine PpSet.newSet_ok (newEnv_comp ?_)
  generalize hD : s2.heap.objs.size = D
  obtain ⟨W, ⟨m0, w0⟩, turn⟩ := q D (I2.hok.fresh (Nat.le_of_eq hD))
  generalize hs3 : ({ s2 with heap := s2.heap.push { cls := .type "set", dict := none, data := .set #[] 0 (.fresh 0 0 (!X.w.params.followText "set-order")) } } : Shared) = s3
  have e3 : s3.heap = s2.heap.push { cls := .type "set", dict := none, data := .set #[] 0 (.fresh 0 0 (!X.w.params.followText "set-order")) } := by rw [← hs3]
  have I3 : Inv X pins σ (upd H2 D (TSO X.w D [])) s3 := by
    rw [← hs3]
    exact I2.laid (t' := s2.toks) (fun b o e => Heap.get?_push_of_some _ e) (Nat.le_of_eq hD) (hD ▸ tso_new (TSet.new X.w s2.heap))
  have f3 : ∀ b ∈ fp, FpOk X pins (upd H2 D (TSO X.w D [])) b ∧ b < s3.heap.objs.size := fun b hb => by
    obtain ⟨o, e, _⟩ := T.obj _ _ st2 b hb
    have lt := Heap.lt_size e
    refine ⟨⟨?_, (f2 b hb).2⟩, by rw [e3, Heap.size_push]; exact Nat.lt_succ_of_lt lt⟩
    rw [upd_ne (by rw [← hD]; exact Nat.ne_of_lt lt)]
    exact (f2 b hb).1
  have I4 := block_start I3 ok hN f3
  have pg := hg s3 (upd H2 D (TSO X.w D [])) s3.heap.objs.size (cellsFrom (s3.heap.objs.size + 1) scope.names (cloFrom X.env.cells scope.names [])) fp
  have pt := ht s3 (upd H2 D (TSO X.w D [])) s3.heap.objs.size (cellsFrom (s3.heap.objs.size + 1) scope.names (cloFrom X.env.cells scope.names [])) fp
  have pe := he s3 (upd H2 D (TSO X.w D [])) s3.heap.objs.size (cellsFrom (s3.heap.objs.size + 1) scope.names (cloFrom X.env.cells scope.names [])) fp
  have fin0 : ∀ s' m H', Inv X pins σ H' s' → Q (.ref D) H' → s'.heap.Ns s3.heap.objs.size m → FpOk X pins H' s3.heap.objs.size → compPost (model X.prog X.w) X.A X.xe none (EP X pins σ Q) (.ref D) s3.heap.objs.size (.ok .next) s' := fun s' m H' I' q hn f => by
    obtain ⟨f0, f1, f2, f3, f4, f5⟩ := f
    exact ⟨m, hn, fun h'' sb => ⟨.ref D, H', I'.turned (t' := s'.toks) (fun b o hb e => (sb.2 b hb).trans e) f0 f1 f3 f4 f5, rfl, q⟩⟩
  show codeAny _ _ (.compStart (.SetComp elt [⟨tg, iter, ifs, 0⟩] scope pos) 0 (.ref it) (.ref D) (compEnvC scope (cellsFrom (s3.heap.objs.size + 1) scope.names (cloFrom X.env.cells scope.names [])) s3.heap.objs.size X.env)) (compPost (model X.prog X.w) X.A X.xe none (EP X pins σ Q) (.ref D) s3.heap.objs.size) { s3 with heap := pushCells (s3.heap.push { cls := .type "dict", data := .dict #[] }) scope.names }
  have nfp : ∀ b ∈ fp, (upd H2 D (TSO X.w D [])) b = none := fun b hb => (f3 b hb).1.1
  have st3 : tn 0 s3.heap := T.keep _ _ _ st2 fun b _ o e => by rw [e3]; exact Heap.get?_push_of_some _ e
  generalize hce : compEnvC scope (cellsFrom (s3.heap.objs.size + 1) scope.names (cloFrom X.env.cells scope.names [])) s3.heap.objs.size X.env = ce at I4 pg pt pe ⊢
  have cL : ce.locals = s3.heap.objs.size := by subst hce; rfl
  generalize hH3 : upd H2 D (TSO X.w D []) = H3 at I3 I4 pg pt pe w0 nfp f3
  generalize hs4 : ({ s3 with heap := pushCells (s3.heap.push { cls := .type "dict", data := .dict #[] }) scope.names } : Shared) = s4 at I4 ⊢
  have st4 : tn 0 s4.heap := T.keep _ _ _ st3 fun b _ o e => by rw [← hs4]; exact pushCells_keeps _ _ _ _ (Heap.get?_push_of_some _ e)
  have stat : ∀ {σ' : L2.St} {H' : Hp} {s' : Shared}, Inv (X.blk s3 H3 scope ce fp) [] σ' H' s' → (∀ b ∈ fp, H' b = none) → ∀ b ∈ fp, FpOk (X.blk s3 H3 scope ce fp) [] H' b := fun {σ' H' s'} J hn b hb =>
    ⟨hn b hb, (J.ok.exf b hb).1, J.ok.exfs b hb, .inl hb, fun x c e => (J.ok.exf b hb).2 x c e, fun p hp => absurd (show p ∈ ([] : List (Addr × Obj)) ++ [] from hp) (by simp)⟩
  have loop : codeAny (model X.prog X.w) X.A (.compLoop (.SetComp elt [⟨tg, iter, ifs, 0⟩] scope pos) 0 (.ref it) (.ref D) ce) (compPost (model X.prog X.w) X.A X.xe none (EP X pins σ Q) (.ref D) s3.heap.objs.size) s4 := by
    refine PpSet.compLoopS_any (fun n s' => ∃ i H', Inv (X.blk s3 H3 scope ce fp) [] (wipe σ (own.map (·.2))) H' s' ∧ tn i s'.heap ∧ (∀ b ∈ fp, H' b = none) ∧ W i n H') ?_ m0 ⟨0, H3, I4, st4, nfp, w0⟩
    rintro n s5 ⟨i, H5, I5, st5, n5, w5⟩
    rcases turn i n H5 w5 with ⟨stop, qq⟩ | ⟨go, Nx, hNx, step⟩
    · refine thnF (T.done (X.blk s3 H3 scope ce fp) rfl rfl rfl hc i [] s5 _ H5 (fun _ _ => False) I5 (stat I5 n5) st5 stop) fun r s6 ⟨hr, I6⟩ => ?_
      subst hr
      have I7 : Inv X pins σ H5 s6 := I3.call' (ch := fp) I6.os I6.base I6.hok I6.bare fun b hb => let ⟨_, g1, _, g3, g4, g5⟩ := (f3 b hb).1; ⟨g3, g1, g4, g5⟩
      have nC : H5 ce.locals = none := I6.free
      obtain ⟨m, hn, _⟩ := I6.loc
      have hn : s6.heap.Ns ce.locals m := hn
      rw [cL] at hn nC
      exact fin0 s6 m H5 I7 qq hn (I3.fpOk (Nat.le_refl _) nC)
    · refine thnF (T.item (X.blk s3 H3 scope ce fp) rfl rfl rfl hc i [] s5 _ H5 (fun _ _ => False) I5 (stat I5 n5) st5 go) fun r s6 ⟨u, hr, h6⟩ => ?_
      subst hr
      refine thnF h6 fun _ s7 ⟨x, H7, I7, r7, y7, st7, n7⟩ => ?_
      refine thnF (pg.run _ s7 _ H7 x u _ (I7.pinned (stat I7 n7) (T.obj _ _ st7)) r7 (step x H7 y7)) fun _ s8 ⟨σ8, H8, I8, hw8, q8⟩ => ?_
      refine thnF (pt.run _ s8 σ8 H8 _ I8 q8) fun b s9 ⟨H9, I9, q9⟩ => ?_
      have back : ∀ {s' : Shared} {H' : Hp}, Inv (X.blk s3 H3 scope ce fp) ([] ++ pinsAt fp s7.heap) σ8 H' s' → Nx H' → ∃ m, m < n ∧ ∃ i H', Inv (X.blk s3 H3 scope ce fp) [] (wipe σ (own.map (·.2))) H' s' ∧ tn i s'.heap ∧ (∀ b ∈ fp, H' b = none) ∧ W i m H' := fun {s' H'} J nx => by
        obtain ⟨m', hm, w'⟩ := hNx H' nx
        have pin : ∀ b ∈ fp, ∀ o, s7.heap.get? b = some o → s'.heap.get? b = some o ∧ H' b = none := fun b hb o e =>
          let z := J.pin (b, o) (List.mem_append_right _ (List.mem_append_right _ (mem_pinsAt hb e))); ⟨z.1, z.2.1⟩
        refine ⟨m', hm, i + 1, H', (J.unpinned (pins := [])).weak (by rw [← hw8, wipe_length]) (fun j v e => ?_), T.keep _ _ _ st7 fun b hb o e => (pin b hb o e).1, fun b hb => ?_, w'⟩
        · rw [← hw8] at e
          exact (wipe_some e).1
        · obtain ⟨o, e, _⟩ := T.obj _ _ st7 b hb
          exact (pin b hb o e).2
      cases b with
      | false =>
        simp only [Bool.false_eq_true, if_false] at q9 ⊢
        exact back I9 q9
      | true =>
        simp only [if_true] at q9 ⊢
        refine thnF (pe.run _ s9 σ8 H9 _ I9 q9) fun z s10 ⟨yv, H10, I10, r10, c, l, ey, hD10, hz10, nx⟩ => ?_
        subst ey
        obtain ⟨tk, rfl⟩ := r10
        exact ts_add (X := X.blk s3 H3 scope ce fp) I10 hD10 hz10 fun s11 I11 => back I11 nx
  exact PpSet.codeAny_compStart_set loop (T.self X.A 0 _ _ _ st4 loop)
end
/-- over a list that the block leaves as it is -/
theorem sc_listT {w : World} {K : PySem.W.Frag} {a : Addr} {xs : List V} {g : TG} {tt : TT} {te : TE} {vs : List Nat} {σ : L2.St} {H1 : Hp} {D : Addr} {Qd : Hp → Prop} (Pv : Nat → Hp → Prop) (h0 : Pv 0 (upd H1 D (TSO w D []))) (hl : ∀ i H, i ≤ xs.length → Pv i H → SqL K H a xs)
    (hs : ∀ i x H, xs[i]? = some x → Pv i H → g x (wipe σ vs) H fun σ2 H2 => wipe σ2 vs = wipe σ vs ∧ tt σ2 H2 fun b H3 =>
      if b = true then te σ2 H3 fun y H4 => ∃ (c : Str) (l : List Str), y = .str c ∧ H4 D = some (TSO w D l) ∧ l.length + 1 < scanBound ∧ Pv (i + 1) (upd H4 D (TSO w D (addT c l))) else Pv (i + 1) H3) (hd : ∀ H, Pv xs.length H → Qd H) :
    ∃ W : Nat → Nat → Hp → Prop, (∃ m, W 0 m (upd H1 D (TSO w D []))) ∧ ∀ i m H, W i m H →
      ((Itl K a).stop i H ∧ Qd H) ∨ ((Itl K a).go i H ∧ ∃ Nx : Hp → Prop, (∀ H', Nx H' → ∃ m', m' < m ∧ W (i + 1) m' H') ∧ ∀ x H', (Itl K a).yld i H x H' → g x (wipe σ vs) H' fun σ2 H2 => wipe σ2 vs = wipe σ vs ∧ tt σ2 H2 fun b H3 =>
        if b = true then te σ2 H3 fun y H4 => ∃ (c : Str) (l : List Str), y = .str c ∧ H4 D = some (TSO w D l) ∧ l.length + 1 < scanBound ∧ Nx (upd H4 D (TSO w D (addT c l))) else Nx H3) := by
  refine ⟨fun i m H => m = xs.length - i ∧ i ≤ xs.length ∧ Pv i H, ⟨xs.length, (Nat.sub_zero _).symm, Nat.zero_le _, h0⟩, ?_⟩
  rintro i m H ⟨rfl, hi, p⟩
  have q := hl i H hi p
  rcases Nat.lt_or_ge i xs.length with lt | ge
  · refine .inr ⟨⟨xs, xs[i], q, by simp [lt]⟩, Pv (i + 1), fun H' p' => ⟨xs.length - (i + 1), by omega, rfl, lt, p'⟩, fun x H' y => ?_⟩
    obtain ⟨e, y⟩ := y
    subst e
    exact hs i x _ (y xs q) p
  · obtain rfl : i = xs.length := Nat.le_antisymm hi ge
    exact .inl ⟨⟨xs, q, Nat.le_refl _⟩, hd H p⟩
end
/-! ### sorted texts -/
section
open PySem PySem.Spec PyProof.Rows
/-- x stands ahead of y, or they are the same -/
def leT (x y : Str) : Prop := ¬ y.cps.toList < x.cps.toList
instance (x y : Str) : Decidable (leT x y) := inferInstanceAs (Decidable (¬ _))
theorem str_ext {x y : Str} (h : x.cps.toList = y.cps.toList) : x = y := by
  cases x
  cases y
  exact congrArg Str.mk (Array.toList_inj.mp h)
theorem nlt_irrefl : ∀ l : List Nat, ¬ l < l := List.lt_irrefl
theorem leT_refl (x : Str) : leT x x := List.lt_irrefl _
theorem leT_anti {x y : Str} (h : leT x y) (k : leT y x) : x = y := str_ext (List.le_antisymm (List.not_lt.mp h) (List.not_lt.mp k))
theorem leT_trans {x y z : Str} (h : leT x y) (k : leT y z) : leT x z := List.not_lt.mpr (List.le_trans (List.not_lt.mp h) (List.not_lt.mp k))
theorem leT_total (x y : Str) : leT x y ∨ leT y x := by
  rcases List.le_total x.cps.toList y.cps.toList with h | h
  · exact .inl (List.not_lt.mpr h)
  · exact .inr (List.not_lt.mpr h)
theorem rising_pw : ∀ (l : List Str) (p : Str), risingS p l = true → (p :: l).Pairwise leT
  | [], p, _ => by simp
  | x :: r, p, h => by
    have h1 : (leT p x) ∧ risingS x r = true := by
      unfold risingS at h
      rw [Bool.and_eq_true, PyProof.Rows.ltCps_eq, Bool.not_eq_true', decide_eq_false_iff_not] at h
      exact h
    have ih := rising_pw r x h1.2
    refine List.pairwise_cons.mpr ⟨fun y hy => ?_, ih⟩
    rcases List.mem_cons.mp hy with rfl | hy
    · exact h1.1
    · exact leT_trans h1.1 ((List.pairwise_cons.mp ih).1 y hy)
theorem sorted_pw {l : List Str} (h : sortedS l = true) : l.Pairwise leT := by
  cases l with
  | nil => exact .nil
  | cons x r => exact rising_pw r x h
theorem pw_unique : ∀ {l m : List Str}, l.Perm m → l.Pairwise leT → m.Pairwise leT → l = m
  | [], m, p, _, _ => (List.perm_nil.mp p.symm).symm
  | x :: l, m, p, hl, hm => by
    cases m with
    | nil => exact absurd (List.perm_nil.mp p) (by simp)
    | cons y m =>
      have e : x = y := by
        have h1 : x ∈ y :: m := p.mem_iff.mp List.mem_cons_self
        have h2 : y ∈ x :: l := p.mem_iff.mpr List.mem_cons_self
        rcases List.mem_cons.mp h1 with e | h1
        · exact e
        rcases List.mem_cons.mp h2 with e | h2
        · exact e.symm
        exact leT_anti ((List.pairwise_cons.mp hl).1 y h2) ((List.pairwise_cons.mp hm).1 x h1)
      subst e
      rw [pw_unique (List.perm_cons _ |>.mp p) (List.pairwise_cons.mp hl).2 (List.pairwise_cons.mp hm).2]
/-- sorted -/
def sortT (l : List Str) : List Str := l.mergeSort fun x y => decide (leT x y)
theorem sortT_perm (l : List Str) : (sortT l).Perm l := List.mergeSort_perm l _
theorem sortT_pw (l : List Str) : (sortT l).Pairwise leT := by
  have h := List.pairwise_mergeSort (le := fun x y => decide (leT x y)) (fun a b c h k => by
    rw [decide_eq_true_eq] at h k ⊢
    exact leT_trans h k) (fun a b => by
    rw [Bool.or_eq_true, decide_eq_true_eq, decide_eq_true_eq]
    exact leT_total a b) l
  exact h.imp fun h => of_decide_eq_true h
theorem sortT_of {l ys : List Str} (p : ys.Perm l) (h : sortedS ys = true) : ys = sortT l := pw_unique (p.trans (sortT_perm l).symm) (sorted_pw h) (sortT_pw l)
theorem sortT_congr {l m : List Str} (p : l.Perm m) : sortT l = sortT m := pw_unique ((sortT_perm l).trans (p.trans (sortT_perm m).symm)) (sortT_pw l) (sortT_pw m)
theorem sortT_mem {l : List Str} {k : Str} : k ∈ sortT l ↔ k ∈ l := (sortT_perm l).mem_iff
theorem sortT_len {l : List Str} : (sortT l).length = l.length := (sortT_perm l).length_eq
theorem nd_perm {l m : List Str} (hl : l.Nodup) (hm : m.Nodup) (h : ∀ k, k ∈ l ↔ k ∈ m) : l.Perm m := by
  rw [List.perm_iff_count]
  intro k
  rw [hl.count, hm.count]
  simp [h k]
theorem strs_ofV : ∀ (l : List Value), (∀ v ∈ l, ∃ k u, v = Value.str k u) → ∃ ss, StrsAre l ss ∧ l.map (fun v => keyT (0, v)) = ss
  | [], _ => ⟨[], .nil, rfl⟩
  | v :: l, h => by
    obtain ⟨k, u, rfl⟩ := h v List.mem_cons_self
    obtain ⟨ss, h1, h2⟩ := strs_ofV l fun x hx => h x (List.mem_cons_of_mem _ hx)
    exact ⟨k :: ss, .cons k u h1, by rw [List.map_cons, h2]; rfl⟩
section
variable {P : Program} {w : World} {A : Around} {E : Value → Shared → Prop} {s : Shared} {a : Addr} {l : List Str}
theorem ts_sorted {Q : Value → Shared → Prop} (R : TSet w s.heap a l) (hh : A.handled = none)
    (hQ : ∀ s' p (out : Array Value) (c : Nat), (∀ b o, s.heap.get? b = some o → s'.heap.get? b = some o) → s'.gens = s.gens → s'.os = s.os → s.heap.objs.size ≤ p → s'.heap.get? p = some (seqObj "list" out c) → StrsAre out.toList (sortT l) → Q (.ref p) s') :
    wpAny (model P w) A (call (.builtin "sorted") [.ref a]) Q E s := by
  obtain ⟨o, es, ep, t, ho, hex, hd, T⟩ := R
  refine Calls.call_function_entry kind_sorted plain_sorted entry_sorted (args_sorted1 _) ?_
  unfold Builtin.«sorted»
  refine wpAny_bind (m := checkCount "sorted" 1 1 _) (wpAny_pure (wpAny_bind (L2.collect_set (A := A.in1) hh ⟨o, ho, hex.1, hd⟩ T.fit T.few T.ris T.led fun s1 vs k1 hz g1 o1 pm => ?_)))
  obtain ⟨ss, hS, es'⟩ := strs_ofV vs fun v hv => by
    obtain ⟨e, he, q⟩ := List.mem_map.mp (pm.mem_iff.mp hv)
    obtain ⟨k, u, rfl⟩ := T.good e he
    exact ⟨k, u, q.symm⟩
  have ps : ss.Perm l := by
    have q := pm.map fun v => keyT (0, v)
    rw [es', List.map_map] at q
    exact q.trans T.perm
  have hv : vs.length = l.length := by rw [pm.length_eq, List.length_map, Array.length_toList, T.size]
  have hL : vs.length ≤ sizeLine := by rw [hv, ← T.size]; exact fits_of_scanBound T.few
  refine wpAny_bind (wpAny_newList ?_ hL)
  have hoL : (s1.heap.push (seqObj "list" vs.toArray 0)).get? s1.heap.objs.size = some (seqObj "list" vs.toArray 0) := Heap.get?_push_size _ rfl
  refine wpAny_bind (wpAny_holding (wpAny_call_entry slot_list_sort ⟨_, hoL, rfl⟩ entry_list_sort (list_sort_treeKAny strKind_oneLt hoL hS.keysOf (fun v₁ v₂ rest e => keyKind_strs (by rw [← e]; exact hS)) hL fun st' hp hs => ⟨_, rfl, ?_⟩) (args_list_sort _)))
  obtain ⟨ys, h1, h2, h3⟩ := sorted_out_str hS hp hs
  obtain ⟨c, hc⟩ := sortedHeap_at (vs := vs) (out := (arrOf st').map (·.2)) hoL
  rw [sortT_of (h2.trans ps) h3] at h1
  refine wpAny_pure ⟨_, rfl, hQ _ s1.heap.objs.size _ c (fun b u e => ?_) g1 o1 hz hc h1⟩
  have q := k1 b u e
  have lt := Heap.lt_size q
  show (sortedHeap (s1.heap.push (seqObj "list" vs.toArray 0)) s1.heap.objs.size vs _).get? b = some u
  rw [sortedHeap_old (Nat.ne_of_lt lt) (by rw [size_push']; exact Nat.lt_succ_of_lt lt)]
  exact Heap.get?_push_of_some _ q
end
section
variable {X : Cx}
/-- sorted(found) -/
theorem cr_sortTS (hc : X.calm = true) : CallR X (.builtin "sorted") (fun vs H Q => ∃ (a : Addr) (l : List Str), vs = [V.ref a] ∧ H a = some (TSO X.w a l) ∧ ∀ p, H p = none → Q (.ref p) (upd H p (.lst ((sortT l).map V.str)))) := by
  intro pins s σ H vs us Q I r h
  obtain ⟨a, l, rfl, ha, q⟩ := h
  have R := tso_get I ha
  rw [Vals.ref1 r]
  have hl : l.length ≤ sizeLine := by
    obtain ⟨o, es, ep, t, ho, hex, hd, T⟩ := R
    rw [← T.size]; exact fits_of_scanBound T.few
  refine ts_sorted R (I.ok.hd hc) fun s' p out c k g o hp hg hi => ?_
  have hn : H p = none := I.hok.fresh hp
  have J : Inv X pins σ (upd H p (.lst ((sortT l).map V.str))) { s with heap := s'.heap, gens := s'.gens, drawn := s'.drawn, toks := s'.toks } :=
    I.call (ch := []) (Un.laid k hp hn) (I.hok.laid k hp ⟨by rw [List.length_map, sortT_len]; exact hl, out.toList, c, vals_of_strs hi, hg⟩) (by rw [g]; exact I.bare) (fun _ z => nomatch z)
  obtain ⟨h', g', d', t', os'⟩ := s'
  obtain ⟨h0, g0, d0, t0, os0⟩ := s
  cases (show os' = os0 from o)
  exact ⟨.ref p, _, J, rfl, q p hn⟩
/-- sorted(texts), any number -/
theorem cr_sortLS : CallR X (.builtin "sorted") (fun vs H Q => ∃ (a : Addr) (xs : List Str), vs = [V.ref a] ∧ SqL X.K H a (xs.map V.str) ∧ ∀ p, H p = none → Q (.ref p) (upd H p (.lst ((sortT xs).map V.str)))) := by
  intro pins s σ H vs us Q I r h
  obtain ⟨a, xs, rfl, hs, q⟩ := h
  obtain ⟨its, rv, hl, hlen⟩ := I.list hs
  rw [Vals.ref1 r]
  have l0 := rv.length
  rw [List.length_map] at l0 hlen
  refine PyProof.Rows.sorted_strsAny hl.isList rv.strs (by rw [← l0]; exact hlen) fun out ys h1 h2 h3 => ?_
  obtain ⟨ep, he'⟩ := PyProof.Rows.sortedAll_at s.heap its out
  rw [sortT_of h2 h3] at h1
  exact ⟨.ref _, upd H (s.heap.objs.size + 1) (.lst ((sortT xs).map V.str)), I.laid (t' := s.toks) (fun _ _ => PyProof.Rows.sortedAll_old) (Nat.le_succ _) ⟨by rw [List.length_map, sortT_len]; exact hlen, out.toList, ep, vals_of_strs h1, he'⟩, rfl, q _ (I.hok.fresh (Nat.le_succ _))⟩
end
end
/-! ### set(texts) -/
section
open PySem PySem.Spec PyProof.Rows
def setT (xs : List Str) : List Str := xs.foldl (fun l k => addT k l) []
theorem setT_go : ∀ (xs l : List Str), (∀ k, k ∈ xs.foldl (fun l k => addT k l) l ↔ k ∈ l ∨ k ∈ xs) ∧ (l.Nodup → (xs.foldl (fun l k => addT k l) l).Nodup) ∧ (xs.foldl (fun l k => addT k l) l).length ≤ l.length + xs.length
  | [], l => ⟨fun k => by simp, id, by simp⟩
  | x :: r, l => by
    obtain ⟨h1, h2, h3⟩ := setT_go r (addT x l)
    refine ⟨fun k => ?_, fun h => h2 (addT_nd h), ?_⟩
    · rw [List.foldl_cons, h1 k, addT_mem, List.mem_cons]
      constructor
      · rintro ((h | h) | h)
        · exact .inr (.inl h)
        · exact .inl h
        · exact .inr (.inr h)
      · rintro (h | h | h)
        · exact .inl (.inr h)
        · exact .inl (.inl h)
        · exact .inr h
    · rw [List.foldl_cons, List.length_cons]
      have := addT_len (k := x) (l := l)
      omega
theorem setT_mem {xs : List Str} {k : Str} : k ∈ setT xs ↔ k ∈ xs := by
  have := (setT_go xs []).1 k
  simpa [setT] using this
theorem setT_nd {xs : List Str} : (setT xs).Nodup := (setT_go xs []).2.1 List.nodup_nil
theorem setT_len {xs : List Str} : (setT xs).length ≤ xs.length := by
  have := (setT_go xs []).2.2
  simpa [setT] using this
theorem setT_take {xs : List Str} {i : Nat} {k : Str} (h : xs[i]? = some k) : setT (xs.take (i + 1)) = addT k (setT (xs.take i)) := by
  unfold setT
  rw [List.take_add_one, h, List.foldl_append]; rfl
theorem sortT_set {xs ys : List Str} (h : ∀ k, k ∈ xs ↔ k ∈ ys) : sortT (setT xs) = sortT (setT ys) := sortT_congr (nd_perm setT_nd setT_nd fun k => by rw [setT_mem, setT_mem]; exact h k)
/-- an empty set's object -/
abbrev set0 (w : World) : Obj := { cls := .type "set", dict := none, data := .set #[] 0 (.fresh 0 0 (!w.params.followText "set-order")) }
theorem TSet.first {w : World} {h : Heap} {a : Addr} (ho : h.get? a = some (set0 w)) : TSet w h a [] := by
  refine ⟨_, #[], 0, _, ho, ⟨rfl, rfl, rfl⟩, rfl, (fun e he => by simp at he), by simp, List.nodup_nil, by decide, by rfl, List.Pairwise.nil, ?_⟩
  show _ ∨ (!w.params.followText "set-order") = true
  cases w.params.followText "set-order" <;> simp
section
variable {P : Program} {w : World} {A : Around} {E : Value → Shared → Prop} {s : Shared}
theorem ts_update {I : Addr} {fp wr : List Addr} {G : Array GenState → Array GenState → Prop} {n : Nat} {Pv : Nat → Value → Prop} {St : Nat → Shared → Prop} {R : Result → Shared → Prop}
    (W : WalksS P w A.in1 I fp wr G n Pv St) (S : Addr) (hSf : S ∉ fp) (xs : List Str) (hn : n = xs.length) (hb : xs.length + 1 < scanBound) (hval : ∀ i v, Pv i v → ∃ k t, xs[i]? = some k ∧ v = .str k t) :
    ∀ (k i : Nat) (s : Shared), n - i = k → i ≤ n → St i s → TSet w s.heap S (setT (xs.take i)) → (∀ s', Moved (S :: wr) G s s' → TSet w s'.heap S (setT xs) → R (.ok (.ret .none)) s') →
      codeAny (model P w) A (.builtin "set.update.loop" ⟨[.ref S, .ref I], []⟩) R s := by
  have nw : S ∉ wr := fun h => hSf (W.sub _ h)
  have inc : ∀ b ∈ wr, b ∈ S :: wr := fun b hb => List.mem_cons_of_mem _ hb
  intro k
  induction k with
  | zero =>
    intro i s hk hi st hS hR
    obtain rfl : i = n := by omega
    refine codeAny_builtin F.entry_set_update_loop ?_
    rw [Around.under_plainId F.plain_set_update_loop _]
    show wpAny _ A.in1 (pyNext (.ref I) >>= _) _ _ s
    refine wpAny_bind (W.done s _ _ st fun s' hm => ?_)
    rw [List.take_of_length_le (by omega)] at hS
    exact wpAny_pure (hR s' (hm.mono inc) (hS.at fun o e => hm.heap S o nw e))
  | succ k ih =>
    intro i s hk hi st hS hR
    have lt : i < n := by omega
    refine codeAny_builtin F.entry_set_update_loop ?_
    rw [Around.under_plainId F.plain_set_update_loop _]
    show wpAny _ A.in1 (pyNext (.ref I) >>= _) _ _ s
    refine wpAny_bind (W.item i s _ _ lt st fun v s' hP st' hm => ?_)
    obtain ⟨z, t, hz, rfl⟩ := hval i v hP
    have hS' := hS.at (h' := s'.heap) fun o e => hm.heap S o nw e
    have hl : (setT (xs.take i)).length + 1 < scanBound := by
      have h1 := setT_len (xs := xs.take i)
      rw [List.length_take] at h1
      omega
    show wpAny _ A.in1 (holding [Value.str z t] (setAdd S (.str z t)) >>= _) _ _ s'
    refine wpAny_bind (wpAny_holding ?_)
    unfold setAdd
    refine wpAny_holding (wpAny_bind ((PySem.strKind P w).pyHash (k := z) (str_isS z t) (ts_addH (s := { s' with toks := s'.toks + 1 }) hS' hl fun h' b sb hS2 => ?_)))
    rw [← setT_take hz] at hS2
    refine wpAny_pure ⟨plainId_quiet F.plain_set_update_loop _, ih (i + 1) _ (by omega) lt (W.frame _ s' _ _ st' (Nat.le_succ _) fun b hb o e => ?_) hS2 fun s2 m2 q2 => ?_⟩
    · rw [sb.2 b (fun h : b = S => hSf (h ▸ hb))]; exact e
    · refine hR s2 (Moved.trans W.gtrans ((hm.mono inc).then_heap (Nat.le_succ _) fun b o hb e => ?_) m2) q2
      rw [sb.2 b (fun h : b = S => hb (h ▸ List.mem_cons_self))]; exact e
theorem strs_at : ∀ {vs : List Value} {xs : List Str}, StrsAre vs xs → ∀ {i : Nat} {v : Value}, vs[i]? = some v → ∃ k t, xs[i]? = some k ∧ v = .str k t
  | _, _, .nil, i, v, h => by simp at h
  | _, _, .cons y t r, i, v, h => by
    cases i with
    | zero =>
      cases h
      exact ⟨y, t, rfl, rfl⟩
    | succ i => exact strs_at r h
theorem strs_len : ∀ {vs : List Value} {xs : List Str}, StrsAre vs xs → vs.length = xs.length
  | _, _, .nil => rfl
  | _, _, .cons y t r => congrArg Nat.succ (strs_len r)
end
section
variable {X : Cx}
/-- len(found) -/
theorem cr_lenTS : CallR X (.builtin "len") (fun vs H Q => ∃ (a : Addr) (l : List Str), vs = [V.ref a] ∧ H a = some (TSO X.w a l) ∧ Q (.int (l.length : Int)) H) := by
  intro pins s σ H vs us Q I r h
  obtain ⟨a, l, rfl, ha, q⟩ := h
  rw [Vals.ref1 r]
  obtain ⟨o, es, ep, t, ho, hex, hd, T⟩ := tso_get I ha
  have hs := T.size
  have hf := T.few
  have h4 : scanBound = 4096 := rfl
  refine PySem.call_len_set ho hex hd T.fit (by omega) ⟨.int _, H, I.tok _, ?_, q⟩
  rw [hs]
  exact ⟨_, rfl⟩
end
end
section
open PySem PySem.Spec PyProof.Rows
section
variable {P : Program} {w : World} {A : Around} {E : Value → Shared → Prop} {s : Shared}
set_option maxHeartbeats 4000000 in
theorem ts_ofList {l : Addr} {items : Array Value} {xs : List Str} {Q : Value → Shared → Prop} (hh : A.handled = none) (hl : s.heap.IsList l items) (hi : StrsAre items.toList xs) (hb : xs.length + 1 < scanBound)
    (h : ∀ (h' : Heap) (tk : Nat), TSet w h' s.heap.objs.size (setT xs) → (∀ b o, s.heap.get? b = some o → h'.get? b = some o) → Q (.ref s.heap.objs.size) { s with heap := h', toks := tk }) : wpAny (model P w) A (call (.type "set") [.ref l]) Q E s := by
  have hz : items.size = xs.length := by
    have q := strs_len hi
    rwa [Array.length_toList] at q
  obtain ⟨c, tl, hmro⟩ := F.called_set.mro
  have hmade := F.called_set.made
  have hsub := F.called_set.sub
  refine wpAny_call (codeAny_of_tree ?_)
  show wpAny _ _ (callAny (.type "set") _) _ _ _
  refine wpAny_pure ⟨Code.quiet_builtin _ (by decide +kernel), codeAny_builtin F.entry_type_call ?_⟩
  rw [Around.under_plain (weight_type_call_type "set" [.ref l] []) rfl]
  have h1 := F.called_set.notType
  have h2 := F.called_set.canCreate
  have hct := F.typeCall_set_1 (.ref l)
  repeat (any_goals (first | assumption | wp_step))
  refine codeAny_mono (L2.code_set_led1 (.ref l) (E := E) (Q₁ := fun obj z => obj = .ref s.heap.objs.size ∧ z = { s with heap := s.heap.push (set0 w) }) ⟨rfl, rfl⟩) fun r s1 hr => ?_
  cases r with
  | error e => exact hr
  | ok fl =>
    cases fl with
    | ret obj =>
      obtain ⟨rfl, rfl⟩ := hr
      have hS : (s.heap.push (set0 w)).get? s.heap.objs.size = some (set0 w) := Heap.get?_push_size _ rfl
      have hT : Shared.TypeIs { s with heap := s.heap.push (set0 w) } (.ref s.heap.objs.size) "set" := ⟨_, hS, rfl⟩
      have hli := F.called_set.init.lookup
      have hbi := F.called_set.init.bind (.ref s.heap.objs.size)
      repeat (any_goals (first | assumption | wp_step))
      refine codeAny_mono (codeAny_call_builtin (R := wants (fun r z => r = .none ∧ ∃ h' tk, z = { s with heap := h', toks := tk } ∧ TSet w h' s.heap.objs.size (setT xs) ∧ ∀ b o, s.heap.get? b = some o → h'.get? b = some o) E) F.called_set.init.plain F.entry_set_init (check_set_init_1 hT ?_)) fun r2 s2 hr2 => ?_
      · obtain ⟨ol, hol, hcl, nl, hdl⟩ := hl
        obtain ⟨oc, od, oda, os⟩ := ol
        simp only at hcl hdl
        subst hcl hdl
        have ho' : (s.heap.push (set0 w)).get? l = some { cls := .type "list", dict := od, data := .seq items nl, slots := os } := Heap.get?_push_of_some _ hol
        have hsls := F.sub_list_set
        have hslf := F.sub_list_frozenset
        have hne : (Value.type "list" == Value.type "dict") = false := by decide
        have hl1 : (s.heap.push (set0 w)).IsList l items := ⟨_, ho', rfl, nl, rfl⟩
        unfold Builtin.«set.__init__» noKeywords Builtin.Frozenset.updateFrom
        generalize hPI : pyIter = PI
        wp_walk
        subst hPI
        refine wpAny_pyIter_list hl1 (wpAny_bind (wpAny_runValue ?_))
        have hlS : l < s.heap.objs.size := Heap.lt_size hol
        have h3 : A.in1.in1.in1.handled = none := by simp [hh]
        have sz : (s.heap.push (set0 w)).objs.size = s.heap.objs.size + 1 := Heap.size_push ..
        refine ts_update ((Walks.list h3 _ l (by rw [sz]; exact Nat.ne_of_lt (Nat.lt_succ_of_lt hlS)) items).toS) s.heap.objs.size ?_ xs hz hb (fun i v hv => strs_at hi (by rw [Array.getElem?_toList]; exact hv)) (items.size - 0) 0 _ (by omega) (Nat.zero_le _)
          ⟨⟨_, Heap.get?_push_size _ rfl, rfl, rfl⟩, hl1.push _⟩ (TSet.first (Heap.get?_push_of_some _ hS)) fun s' hm hS' => ?_
        · rw [sz]
          simp only [List.mem_cons, List.not_mem_nil, or_false, not_or]
          exact ⟨Nat.ne_of_lt (Nat.lt_succ_self _), Nat.ne_of_gt hlS⟩
        · obtain ⟨h', g2, d', tk', os'⟩ := s'
          have eg : g2 = s.gens := hm.gens
          have ed : d' = s.drawn := hm.drawn
          have eo : os' = s.os := hm.os
          subst eg ed eo
          show wpAny _ _ _ _ _ _
          refine wpAny_pure ?_
          show wpAny _ _ (ret Value.none) _ _ _
          refine wpAny_pure ⟨rfl, h', tk', rfl, hS', fun b o e => ?_⟩
          have b0 := Heap.lt_size e
          refine hm.heap b o ?_ (Heap.get?_push_of_some _ (Heap.get?_push_of_some _ e))
          rw [sz]
          simp only [List.mem_cons, List.not_mem_nil, or_false, not_or]
          exact ⟨Nat.ne_of_lt b0, Nat.ne_of_lt (Nat.lt_succ_of_lt b0)⟩
      · cases r2 with
        | error e => exact hr2
        | ok fl2 =>
          cases fl2 with
          | ret r =>
            obtain ⟨rfl, h', tk, rfl, hS', hk'⟩ := hr2
            repeat (any_goals (first | assumption | wp_step))
            exact h _ _ hS' hk'
          | _ => exact hr2.elim
    | _ => exact hr.elim
end
section
variable {X : Cx}
/-- set(xs), xs a list of texts -/
theorem cr_setTSL (hc : X.calm = true) : CallR X (.type "set") (fun vs H Q => ∃ (p : Addr) (xs : List Str), vs = [V.ref p] ∧ SqL X.K H p (xs.map V.str) ∧ xs.length + 1 < scanBound ∧ ∀ q, H q = none → Q (.ref q) (upd H q (TSO X.w q (setT xs)))) := by
  intro pins s σ H vs us Q I r h
  obtain ⟨p, xs, rfl, hs, hb, q⟩ := h
  rw [Vals.ref1 r]
  obtain ⟨its, rv, hl, _⟩ := I.list hs
  refine ts_ofList (I.ok.hd hc) hl.isList (xs := xs) (by simpa using rv.strs) hb fun h' tk R k => ?_
  exact ⟨.ref _, upd H s.heap.objs.size (TSO X.w s.heap.objs.size (setT xs)), I.laid (t' := tk) k (Nat.le_refl _) (tso_new R), rfl, q _ (I.hok.fresh (Nat.le_refl _))⟩
end
end
/-! ### own classes: o[i], o[i] = v, x in o -/
section
open PySem PySem.Spec PyProof.Rows
variable {X : Cx} {CX : CXT} {k : Nat} {C f a dx : Addr} {fs : List (Str × V)} {fd : FuncData} {ps : List Str} {sp : Sp} {E : L2.St → XK} {pins : List (Addr × Obj)} {σ : L2.St} {H : Hp} {s : Shared}
theorem own_at (I : Inv X pins σ H s) (ea : H a = some (.ins C dx fs)) : ∃ od, PySem.W.InstAt s.heap a (PySem.W.instObj C dx) C (some od) := by
  obtain ⟨mA, O, _⟩ := ins_get I.hok ea
  obtain ⟨od, J, _⟩ := O.look
  exact ⟨od, J⟩
/-- a method of the class, called below the place -/
theorem run_in1 {us : List Value} {vs : List V} {Q : VK} (F : FnOk X.prog X.w X.K X.mg X.base CX k f fd ps sp) (hr : Room (k + 1) X.A) (hb : L2.Binds X.K fd ps []) (hx : PassesAt CX X σ (E σ)) (I : Inv X pins σ H s) (r : Vals vs us) (h : sp vs H Q (E σ)) :
    wpAny (model X.prog X.w) X.A.in1 (call (.ref f) us) (EP X pins σ Q) X.xe s := by
  have hl : (us ++ []).length = ps.length := by rw [List.append_nil, ← r.length]; exact F.len _ _ _ _ h
  have b := hb s us I.kIn hl
  rw [List.append_nil] at b
  refine wpAny_call (codeAny_mono (F.run X.A.in1 X.stack s H ⟨us, []⟩ us vs Q (E σ) hr.in1 I.env0.in1 b r h) fun q s' hq => ?_)
  match q, hq with
  | .error e, hq => exact hx pins H s e s' I hq
  | .ok (.ret u), hq => exact I.after hq
  | .ok .next, hq => exact hq.elim
  | .ok .brk, hq => exact hq.elim
  | .ok .cont, hq => exact hq.elim
theorem run_here {us : List Value} {vs : List V} {Q : VK} (F : FnOk X.prog X.w X.K X.mg X.base CX k f fd ps sp) (hr : Room k X.A) (hb : L2.Binds X.K fd ps []) (hx : PassesAt CX X σ (E σ)) (I : Inv X pins σ H s) (r : Vals vs us) (h : sp vs H Q (E σ)) :
    wpAny (model X.prog X.w) X.A (call (.ref f) us) (EP X pins σ Q) X.xe s := by
  have e0 : vs ++ ([] : List V) = vs := List.append_nil vs
  exact run_fnSD (dvs := []) F hr hb .nil hx I r (e0.symm ▸ h)
def tGetO (C : Addr) (sp : Sp) (E : L2.St → XK) (ta tb : TE) : TE := fun σ H Q => ta σ H fun x H1 => tb σ H1 fun y H2 => ∃ a dx fs, x = .ref a ∧ H2 a = some (.ins C dx fs) ∧ sp [.ref a, y] H2 Q (E σ)
theorem pe_getO {o i : Expr} {ta tb : TE} {pos : Pos} (ho : PE X o ta) (hi : PE X i tb) (hm : Meth X.K C "__getitem__" f) (hfn : PySem.W.fnIn X.K f = true) (F : FnOk X.prog X.w X.K X.mg X.base CX k f fd ps sp) (hr : Room (k + 1) X.A) (hb : L2.Binds X.K fd ps []) (hx : ∀ σ, PassesAt CX X σ (E σ))
    (hsl : ∀ v u, subscripted i true v u = runValue (.builtin "lifetime.subscript" ⟨[v, u], []⟩) := by intro _ _; with_unfolding_all rfl) : PE X (.Subscript o i pos) (tGetO C sp E ta tb) := by
  refine ⟨fun pins s σ H Q I h => ?_⟩
  refine Subscript_ (binT ho hi I h fun v u s2 x y H2 I2 rx ry q => ?_)
  obtain ⟨a, dx, fs, rfl, ea, q⟩ := q
  cases (show v = Value.ref a from rx)
  obtain ⟨od, J⟩ := own_at I2 ea
  have fi := hm.fn
  unfold PySem.W.fnIn at hfn
  split at hfn
  · rename_i e
    unfold subscriptTail getitemInPython
    refine wpAny_bind (wpAny_bind (wpAny_bind (J.type.here ((PySem.W.looks_findIn I2.kIn hm.at_).here ?_))))
    dsimp only
    refine wpAny_bind (wpAny_load (I2.kIn _ _ e) (wpAny_pure ?_))
    dsimp only
    rw [hsl]
    refine wpAny_bind (wpAny_runValue (codeAny_builtin PySem.W.entry_sub ?_))
    unfold Builtin.«lifetime.subscript»
    refine wpAny_bind (PySem.W.special_fn I2.kIn J hm.at_ (beq_iff_eq.mp fi) (wpAny_mono (run_in1 F hr hb (hx σ) I2 (vs := [.ref a, y]) (.cons rfl (.cons ry .nil)) q) (fun z s3 hz => wpAny_pure ?_) fun _ _ z => z))
    show wpAny (model X.prog X.w) X.A (letTemporaryGo o (.ref a) z >>= fun _ => pure z) _ _ s3
    exact wpAny_bind (wpAny_letTemporaryGo (wpAny_pure hz))
  · cases hfn
def gSetO (C : Addr) (sp : Sp) (E : L2.St → XK) (to ti : TE) : TG := fun v σ H Q => to σ H fun o H1 => ti σ H1 fun i H2 => ∃ a dx fs, o = .ref a ∧ H2 a = some (.ins C dx fs) ∧ sp [.ref a, i, v] H2 (fun _ H3 => Q σ H3) (E σ)
theorem pg_setO {o i : Expr} {to ti : TE} {pos : Pos} (ho : PE X o to) (hi : PE X i ti) (hm : Meth X.K C "__setitem__" f) (hq : PySem.W.noSeq X.K C = true) (F : FnOk X.prog X.w X.K X.mg X.base CX k f fd ps sp) (hr : Room k X.A) (hb : L2.Binds X.K fd ps []) (hx : ∀ σ, PassesAt CX X σ (E σ))
    (ha : ∀ v, assign (.Subscript o i pos) X.env v = (do
      let ov ← holding [v] (eval o X.env)
      let iv ← holding [v, ov] (eval i X.env)
      standAt pos
      holding [v, ov, iv] (setItem ov iv v)
      release [v, ov, iv] []) := by intro _; rfl) : PG X (.Subscript o i pos) (gSetO C sp E to ti) := by
  refine ⟨fun pins s σ H v u Q I r h => ?_⟩
  rw [ha]
  refine wpAny_bind (wpAny_holding (thn (ho.run pins s σ H _ I h) fun ov s1 ⟨x, H1, I1, r1, q1⟩ => wpAny_bind (wpAny_holding (thn (hi.run pins s1 σ H1 _ I1 q1) fun iv s2 ⟨y, H2, I2, r2, a, dx, fs, ex, ea, q2⟩ => ?_))))
  subst ex
  cases (show ov = Value.ref a from r1)
  obtain ⟨od, J⟩ := own_at I2 ea
  refine wpAny_bind (wpAny_standAt (wpAny_bind (wpAny_holding ?_)))
  unfold setItem sequenceKey
  refine wpAny_holding (wpAny_bind (wpAny_bind (J.type.here (wpAny_bind ((PySem.W.anyM_none I2.kIn hq).here ?_)))))
  rw [if_pos (show (!false) = true from rfl)]
  refine wpAny_pure (wpAny_bind (PySem.W.special_fn I2.kIn J hm.at_ (beq_iff_eq.mp hm.fn) (wpAny_mono (run_here F hr hb (hx σ) I2 (vs := [.ref a, y, v]) (.cons rfl (.cons r2 (.cons r .nil))) q2) (fun z s3 hz => wpAny_pure ?_) fun _ _ z => z)))
  obtain ⟨_, H3, I3, _, q3⟩ := hz
  exact wpAny_release ⟨σ, H3, I3, q3⟩
/-- x in o; x not in o: __contains__ gives a truth value -/
def rInO (C : Addr) (neg : Bool) (sp : Sp) : R2 := fun x y H Q => ∃ a dx fs, y = .ref a ∧ H a = some (.ins C dx fs) ∧ sp [.ref a, x] H (fun v H' => ∃ b, v = .bl b ∧ Q (.bl (if neg = true then !b else b)) H') E0
theorem has_own {Q : Bool → Shared → Prop} {x : V} {v : Value} (I : Inv X pins σ H s) (rx : RelV x v) (ea : H a = some (.ins C dx fs)) (hm : Meth X.K C "__contains__" f) (F : FnOk X.prog X.w X.K X.mg X.base CX0 k f fd ps sp) (hr : Room k X.A) (hb : L2.Binds X.K fd ps []) {Qb : Bool → Hp → Prop}
    (h : sp [.ref a, x] H (fun v H' => ∃ b, v = .bl b ∧ Qb b H') E0) (hQ : ∀ b s' H', Inv X pins σ H' s' → Qb b H' → Q b s') : wpAny (model X.prog X.w) X.A (contains (.ref a) v) Q X.xe s := by
  obtain ⟨od, J⟩ := own_at I ea
  unfold contains
  refine wpAny_holding (wpAny_bind (wpAny_bind (J.type.here ((PySem.W.looks_findIn I.kIn hm.at_).here ?_))))
  rw [if_neg (by simp)]
  refine wpAny_bind (PySem.W.unlessNone_K I.kIn J hm.at_ hm.fn (wpAny_mono (run_here (E := fun _ => E0) F hr hb (fun _ _ _ _ _ _ z => z.elim) I (vs := [.ref a, x]) (.cons rfl (.cons rx .nil)) h) (fun z s3 hz => ?_) fun _ _ z => z))
  obtain ⟨w, H3, I3, rw', b, rfl, q⟩ := hz
  cases (show z = Value.bool b from rw')
  exact wpAny_truthy_bool (hQ b s3 H3 I3 q)
theorem op_inO (hm : Meth X.K C "__contains__" f) (F : FnOk X.prog X.w X.K X.mg X.base CX0 k f fd ps sp) (hr : Room k X.A) (hb : L2.Binds X.K fd ps []) : OpR X (compareOp .In) (rInO C false sp) := by
  intro pins s σ H x y v u Q I rx ry h
  obtain ⟨a, dx, fs, rfl, ea, q⟩ := h
  cases (show u = Value.ref a from ry)
  exact wpAny_bind (has_own I rx ea hm F hr hb (Qb := fun b H' => Q (.bl b) H') q fun b s' H' I' q' => wpAny_pure ⟨.bl b, H', I', rfl, q'⟩)
theorem op_notInO (hm : Meth X.K C "__contains__" f) (F : FnOk X.prog X.w X.K X.mg X.base CX0 k f fd ps sp) (hr : Room k X.A) (hb : L2.Binds X.K fd ps []) : OpR X (compareOp .NotIn) (rInO C true sp) := by
  intro pins s σ H x y v u Q I rx ry h
  obtain ⟨a, dx, fs, rfl, ea, q⟩ := h
  cases (show u = Value.ref a from ry)
  exact wpAny_bind (has_own I rx ea hm F hr hb (Qb := fun b H' => Q (.bl (!b)) H') q fun b s' H' I' q' => wpAny_pure ⟨.bl (!b), H', I', rfl, q'⟩)
end
/-! ### rules within a comprehension: the text's K by name -/
section
variable {X : Cx} {K : PySem.W.Frag}
theorem pe_fldK {o : Expr} {f : Str} {pos : Pos} {ta : TE} (hK : X.K = K) (ho : PE X o ta) (hab : attributeBase o f X.env (eval o X.env) = eval o X.env) : PE X (.Attribute o f pos) (tFld K ta f) := hK ▸ pe_fld ho hab
theorem op_inK (hK : X.K = K) : OpR X (compareOp .In) (rIn K false) := hK ▸ op_in_seq
theorem op_notInK (hK : X.K = K) : OpR X (compareOp .NotIn) (rIn K true) := hK ▸ op_notIn_seq
theorem ix_listK (hK : X.K = K) : IxR X (rIxL K) := hK ▸ ix_list
theorem ix_tupK (hK : X.K = K) : IxR X (rIxT K) := hK ▸ ix_tup
theorem op_eqDK (hK : X.K = K) (hu : X.A.units + 64 < cLine) : OpR X (compareOp .Eq) (rEqD K) := hK ▸ op_eqD hu
theorem op_neDK (hK : X.K = K) (hu : X.A.units + 64 < cLine) : OpR X (compareOp .NotEq) (rNeD K) := hK ▸ op_neD hu
end
/-! ### lists, the last item first -/
def rv {α : Type} (f : α → V) (l : List α) : List V := (l.map f).reverse
section
variable {α : Type} {f : α → V} {x y : α} {l : List α}
theorem rv_cons : rv f (x :: l) = rv f l ++ [f x] := by simp [rv]
theorem rv_len : (rv f l).length = l.length := by simp [rv]
theorem rv_at : atI (rv f (x :: l)) (-1) = some (f x) := by
  unfold atI ixN
  rw [rv_cons]
  have h1 : ¬ (0 : Int) ≤ -1 := by omega
  have h2 : -((rv f l ++ [f x]).length : Int) ≤ -1 := by rw [List.length_append]; simp; omega
  have h3 : ((-1 : Int) + ((rv f l ++ [f x]).length : Int)).toNat = (rv f l).length := by rw [List.length_append, List.length_singleton]; omega
  simp only [h1, if_false, h2, if_true, Option.bind_some, h3]
  rw [List.getElem?_append_right (Nat.le_refl _), Nat.sub_self]; rfl
theorem rv_ix : ixN (rv f (x :: l)).length (-1) = some l.length := by
  unfold ixN
  rw [rv_len]
  have h1 : ¬ (0 : Int) ≤ -1 := by omega
  have h2 : -((x :: l).length : Int) ≤ -1 := by rw [List.length_cons]; omega
  have h3 : ((-1 : Int) + ((x :: l).length : Int)).toNat = l.length := by rw [List.length_cons]; omega
  simp only [h1, if_false, h2, if_true, h3]
theorem rv_set : (rv f (x :: l)).set l.length (f y) = rv f (y :: l) := by
  rw [rv_cons, rv_cons, ← rv_len (f := f) (l := l), List.set_append_right _ _ (Nat.le_refl _), Nat.sub_self]; rfl
theorem rv_pop : (rv f (x :: l))[(rv f (x :: l)).length - 1]? = some (f x) := by
  rw [rv_len, rv_cons, List.length_cons, Nat.add_sub_cancel, ← rv_len (f := f) (l := l), List.getElem?_append_right (Nat.le_refl _), Nat.sub_self]; rfl
theorem rv_drop : (rv f (x :: l)).dropLast = rv f l := by
  rw [rv_cons, List.dropLast_concat]
end
inductive All2 {α β : Type} (R : α → β → Prop) : List α → List β → Prop
  | nil : All2 R [] []
  | cons {x y l m} : R x y → All2 R l m → All2 R (x :: l) (y :: m)
theorem All2.imp {α β : Type} {R S : α → β → Prop} {l : List α} {m : List β} (a : All2 R l m) (h : ∀ x y, x ∈ l → R x y → S x y) : All2 S l m := by
  induction a with
  | nil => exact .nil
  | cons r _ ih => exact .cons (h _ _ List.mem_cons_self r) (ih fun x y hx => h x y (List.mem_cons_of_mem _ hx))
theorem All2.mem {α β : Type} {R : α → β → Prop} {l : List α} {m : List β} (a : All2 R l m) {x : α} (h : x ∈ l) : ∃ y, y ∈ m ∧ R x y := by
  induction a with
  | nil => cases h
  | cons r _ ih =>
    rcases List.mem_cons.mp h with rfl | h
    · exact ⟨_, List.mem_cons_self, r⟩
    · obtain ⟨y, h1, h2⟩ := ih h
      exact ⟨y, List.mem_cons_of_mem _ h1, h2⟩
theorem All2.len {α β : Type} {R : α → β → Prop} {l : List α} {m : List β} (a : All2 R l m) : l.length = m.length := by
  induction a with
  | nil => rfl
  | cons _ _ ih => rw [List.length_cons, List.length_cons, ih]
/-! ### a database: its state, where it lies -/
structure Tx where
  num : Int
  rs : List (Option Str)
structure Row where
  rcd : Str
  val : V
  fate : Str
  holder : Int
  level : Int
structure Db where
  rows : List Row
  stack : List (Option Tx)
  entered : List Str
  floor : Int
  opened : Int
structure TxL where
  t : Addr
  dt : Addr
  q : Addr
structure Lay where
  db : Addr
  dx : Addr
  r : Addr
  s : Addr
  e : Addr
  ws : List (Addr × Addr)
  ts : List (Option TxL)
def oV : Option Str → V
  | none => .non
  | some z => .str z
def tV : Option TxL → V
  | none => .non
  | some t => .ref t.t
abbrev dbF (r s e : Addr) (f o : Int) : List (Str × V) := [("rows", .ref r), ("stack", .ref s), ("entered", .ref e), ("floor", .int f), ("opened", .int o)]
abbrev txF (n : Int) (q : Addr) : List (Str × V) := [("number", .int n), ("reasons", .ref q)]
abbrev rwF (w : Row) : List (Str × V) := [("record", .str w.rcd), ("value", w.val), ("fate", .str w.fate), ("holder", .int w.holder), ("level", .int w.level)]
def TxAt (aT : Addr) (H : Hp) : Option TxL → Option Tx → Prop
  | none, none => True
  | some t, some x => H t.t = some (.ins aT t.dt (txF x.num t.q)) ∧ H t.q = some (.lst (rv oV x.rs)) ∧ x.rs ≠ []
  | _, _ => False
def RowAt (aW : Addr) (H : Hp) (w : Addr × Addr) (x : Row) : Prop := H w.1 = some (.ins aW w.2 (rwF x))
structure DbAt (aD aT aW : Addr) (H : Hp) (L : Lay) (D : Db) : Prop where
  db : H L.db = some (.ins aD L.dx (dbF L.r L.s L.e D.floor D.opened))
  r : H L.r = some (.lst (L.ws.map fun w => .ref w.1))
  s : H L.s = some (.lst (rv tV L.ts))
  e : H L.e = some (.lst (rv V.str D.entered))
  rows : All2 (RowAt aW H) L.ws D.rows
  txs : All2 (TxAt aT H) L.ts D.stack
  rs : L.r ≠ L.s
  re : L.r ≠ L.e
  se : L.s ≠ L.e
  qn : ∀ t, some t ∈ L.ts → t.q ≠ L.r ∧ t.q ≠ L.s ∧ t.q ≠ L.e
  qd : L.ts.Pairwise fun x y => ∀ t u, x = some t → y = some u → t.q ≠ u.q
  wd : L.ws.Pairwise fun x y => x.1 ≠ y.1
  ne : D.stack ≠ []
/-- what may change -/
def Mut (L : Lay) (b : Addr) : Prop := b = L.db ∨ b = L.r ∨ b = L.s ∨ b = L.e ∨ (∃ t, some t ∈ L.ts ∧ b = t.q) ∨ ∃ w, w ∈ L.ws ∧ b = w.1
/-- all of it -/
def Foot (L : Lay) (b : Addr) : Prop := Mut L b ∨ ∃ t, some t ∈ L.ts ∧ b = t.t
structure Fr (H H' : Hp) (L L' : Lay) : Prop where
  kp : Kp (Mut L) H H'
  mt : ∀ b, Mut L' b → Mut L b ∨ H b = none
  db : L'.db = L.db
theorem Fr.refl {H : Hp} {L : Lay} : Fr H H L L := ⟨Kp.refl, fun _ h => .inl h, rfl⟩
theorem Fr.trans {H H1 H2 : Hp} {L L1 L2 : Lay} (a : Fr H H1 L L1) (b : Fr H1 H2 L1 L2) : Fr H H2 L L2 := by
  refine ⟨fun c u h n => ?_, fun c h => ?_, b.db.trans a.db⟩
  · refine b.kp c u (a.kp c u h n) fun z => ?_
    rcases a.mt c z with z | z
    · exact n z
    · rw [z] at h; cases h
  · rcases b.mt c h with z | z
    · exact a.mt c z
    · cases e : H c with
      | none => exact .inr rfl
      | some u =>
        by_cases hm : Mut L c
        · exact .inl hm
        · rw [a.kp c u e hm] at z; cases z
theorem Fr.of_kp {H H' : Hp} {L : Lay} (k : Kp (Mut L) H H') : Fr H H' L L := ⟨k, fun _ h => .inl h, rfl⟩
theorem Fr.new {H H' : Hp} {L L' : Lay} {p : Addr} {o : HO} (a : Fr H H' L L') (h : H' p = none) : Fr H (upd H' p o) L L' := ⟨a.kp.new h, a.mt, a.db⟩
/-- q is none of what may change -/
theorem Fr.out {H H' : Hp} {L L' : Lay} {b : Addr} {u : HO} (a : Fr H H' L L') (h : H b = some u) (n : ¬ Mut L b) : ¬ Mut L' b := fun z => by
  rcases a.mt b z with z | z
  · exact n z
  · rw [h] at z; cases z
section
variable {aD aT aW : Addr} {H H' : Hp} {L : Lay} {D : Db}
theorem TxAt.keep {x : Option TxL} {y : Option Tx} (h : TxAt aT H x y) (k : ∀ t, x = some t → (∀ u, H t.t = some u → H' t.t = some u) ∧ ∀ u, H t.q = some u → H' t.q = some u) : TxAt aT H' x y := by
  cases x with
  | none => cases y with
    | none => trivial
    | some y => exact h
  | some t => cases y with
    | none => exact h
    | some y =>
      obtain ⟨h1, h2, h3⟩ := h
      obtain ⟨k1, k2⟩ := k t rfl
      exact ⟨k1 _ h1, k2 _ h2, h3⟩
theorem DbAt.keep (h : DbAt aD aT aW H L D) (k : ∀ b u, Foot L b → H b = some u → H' b = some u) : DbAt aD aT aW H' L D := by
  refine ⟨k _ _ (.inl (.inl rfl)) h.db, k _ _ (.inl (.inr (.inl rfl))) h.r, k _ _ (.inl (.inr (.inr (.inl rfl)))) h.s, k _ _ (.inl (.inr (.inr (.inr (.inl rfl))))) h.e, ?_, ?_, h.rs, h.re, h.se, h.qn, h.qd, h.wd, h.ne⟩
  · exact h.rows.imp fun w x hw hx => k _ _ (.inl (.inr (.inr (.inr (.inr (.inr ⟨w, hw, rfl⟩)))))) hx
  · refine h.txs.imp fun x y hx hy => hy.keep fun t et => ?_
    subst et
    exact ⟨fun u => k _ u (.inr ⟨t, hx, rfl⟩), fun u => k _ u (.inl (.inr (.inr (.inr (.inr (.inl ⟨t, hx, rfl⟩))))))⟩
theorem DbAt.new {p : Addr} {o : HO} (h : DbAt aD aT aW H L D) (hp : H p = none) : DbAt aD aT aW (upd H p o) L D := h.keep fun b u _ e => upd_old e hp
theorem DbAt.tx (h : DbAt aD aT aW H L D) {t : TxL} (m : some t ∈ L.ts) : ∃ x : Tx, H t.t = some (.ins aT t.dt (txF x.num t.q)) ∧ H t.q = some (.lst (rv oV x.rs)) ∧ x.rs ≠ [] := by
  obtain ⟨y, _, hy⟩ := h.txs.mem m
  cases y with
  | none => exact hy.elim
  | some x => exact ⟨x, hy⟩
theorem DbAt.row (h : DbAt aD aT aW H L D) {w : Addr × Addr} (m : w ∈ L.ws) : ∃ x : Row, H w.1 = some (.ins aW w.2 (rwF x)) := by
  obtain ⟨y, _, hy⟩ := h.rows.mem m
  exact ⟨y, hy⟩
/-- what may change, is there -/
theorem DbAt.mut (h : DbAt aD aT aW H L D) {b : Addr} (m : Mut L b) : ∃ u, H b = some u := by
  rcases m with rfl | rfl | rfl | rfl | ⟨t, m, rfl⟩ | ⟨w, m, rfl⟩
  · exact ⟨_, h.db⟩
  · exact ⟨_, h.r⟩
  · exact ⟨_, h.s⟩
  · exact ⟨_, h.e⟩
  · obtain ⟨x, _, h2, _⟩ := h.tx m
    exact ⟨_, h2⟩
  · obtain ⟨x, h1⟩ := h.row m
    exact ⟨_, h1⟩
theorem DbAt.fresh (h : DbAt aD aT aW H L D) {b : Addr} (e : H b = none) : ¬ Mut L b := fun z => by
  obtain ⟨u, e2⟩ := h.mut z
  rw [e] at e2; cases e2
/-- a list that is none of its own changes -/
theorem DbAt.oth {p : Addr} {o : HO} {xs : List V} (h : DbAt aD aT aW H L D) (hp : H p = some (.lst xs)) (n : ¬ Mut L p) : DbAt aD aT aW (upd H p o) L D := h.keep fun b u f e => by
  refine upd_oth (fun z => ?_) e
  subst z
  rcases f with f | ⟨t, m, rfl⟩
  · exact n f
  · obtain ⟨x, h1, _⟩ := h.tx m
    rw [hp] at h1; cases h1
theorem DbAt.mutE : Mut L L.e := .inr (.inr (.inr (.inl rfl)))
theorem DbAt.mutS : Mut L L.s := .inr (.inr (.inl rfl))
theorem DbAt.mutD : Mut L L.db := .inl rfl
theorem DbAt.mutQ {t : TxL} (h : some t ∈ L.ts) : Mut L t.q := .inr (.inr (.inr (.inr (.inl ⟨t, h, rfl⟩))))
theorem ins_ne {b p C dx : Addr} {fs : List (Str × V)} {xs : List V} (h1 : H b = some (.ins C dx fs)) (h2 : H p = some (.lst xs)) : b ≠ p := fun z => by
  rw [z, h2] at h1; cases h1
theorem DbAt.rowsQ {p : Addr} {o : HO} {xs : List V} (h : DbAt aD aT aW H L D) (hp : H p = some (.lst xs)) : All2 (RowAt aW (upd H p o)) L.ws D.rows :=
  h.rows.imp fun w x hw hx => upd_oth (ins_ne hx hp) hx
theorem DbAt.txsQ {p : Addr} {o : HO} {xs : List V} (h : DbAt aD aT aW H L D) (hp : H p = some (.lst xs)) (n : ∀ t, some t ∈ L.ts → t.q ≠ p) : All2 (TxAt aT (upd H p o)) L.ts D.stack :=
  h.txs.imp fun x y hx hy => hy.keep fun t et => by
    subst et
    obtain ⟨z, h1, _⟩ := h.tx hx
    exact ⟨fun u e => upd_oth (ins_ne h1 hp) e, fun u e => upd_oth (n t hx) e⟩
theorem DbAt.setE (h : DbAt aD aT aW H L D) (es : List Str) : DbAt aD aT aW (upd H L.e (.lst (rv V.str es))) L { D with entered := es } :=
  ⟨upd_oth (ins_ne h.db h.e) h.db, upd_oth h.re h.r, upd_oth h.se h.s, upd_same, h.rowsQ h.e, h.txsQ h.e fun t m => (h.qn t m).2.2, h.rs, h.re, h.se, h.qn, h.qd, h.wd, h.ne⟩
theorem DbAt.setS (h : DbAt aD aT aW H L D) {ts : List (Option TxL)} {st : List (Option Tx)} (a : All2 (TxAt aT (upd H L.s (.lst (rv tV ts)))) ts st) (qn : ∀ t, some t ∈ ts → t.q ≠ L.r ∧ t.q ≠ L.s ∧ t.q ≠ L.e) (qd : ts.Pairwise fun x y => ∀ t u, x = some t → y = some u → t.q ≠ u.q) (ne : st ≠ []) :
    DbAt aD aT aW (upd H L.s (.lst (rv tV ts))) { L with ts := ts } { D with stack := st } :=
  ⟨upd_oth (ins_ne h.db h.s) h.db, upd_oth h.rs h.r, upd_same, upd_oth (Ne.symm h.se) h.e, h.rowsQ h.s, a, h.rs, h.re, h.se, qn, qd, h.wd, ne⟩
theorem DbAt.pushN (h : DbAt aD aT aW H L D) : DbAt aD aT aW (upd H L.s (.lst (rv tV (none :: L.ts)))) { L with ts := none :: L.ts } { D with stack := none :: D.stack } := by
  refine h.setS (.cons trivial (h.txsQ h.s fun t m => (h.qn t m).2.1)) (fun t m => ?_) ?_ (by simp)
  · rcases List.mem_cons.mp m with m | m
    · cases m
    · exact h.qn t m
  · exact List.pairwise_cons.mpr ⟨fun y _ t u e => (by cases e), h.qd⟩
theorem DbAt.pushT (h : DbAt aD aT aW H L D) {t : TxL} {n : Int} {rs : List (Option Str)} (h1 : H t.t = some (.ins aT t.dt (txF n t.q))) (h2 : H t.q = some (.lst (rv oV rs))) (hr : rs ≠ []) (hn : ¬ Mut L t.q) :
    DbAt aD aT aW (upd H L.s (.lst (rv tV (some t :: L.ts)))) { L with ts := some t :: L.ts } { D with stack := some ⟨n, rs⟩ :: D.stack } := by
  have ns : t.q ≠ L.s := fun z => hn (z ▸ DbAt.mutS)
  refine h.setS (.cons ⟨upd_oth (ins_ne h1 h.s) h1, upd_oth ns h2, hr⟩ (h.txsQ h.s fun t m => (h.qn t m).2.1)) (fun u m => ?_) ?_ (by simp)
  · rcases List.mem_cons.mp m with m | m
    · cases m
      exact ⟨fun z => hn (.inr (.inl z)), ns, fun z => hn (z ▸ DbAt.mutE)⟩
    · exact h.qn u m
  · refine List.pairwise_cons.mpr ⟨fun y hy u v e1 e2 z => ?_, h.qd⟩
    cases e1
    subst e2
    exact hn (z ▸ DbAt.mutQ hy)
theorem DbAt.popS {t : Option TxL} {ts : List (Option TxL)} {x : Option Tx} {st : List (Option Tx)} (h : DbAt aD aT aW H L D) (et : L.ts = t :: ts) (es : D.stack = x :: st) (ne : st ≠ []) :
    DbAt aD aT aW (upd H L.s (.lst (rv tV ts))) { L with ts := ts } { D with stack := st } := by
  have a : All2 (TxAt aT (upd H L.s (.lst (rv tV ts)))) (t :: ts) (x :: st) := by
    have := h.txsQ (o := .lst (rv tV ts)) h.s fun t m => (h.qn t m).2.1
    rw [et, es] at this; exact this
  cases a with
  | cons _ a =>
    refine h.setS a (fun u m => h.qn u (by rw [et]; exact List.mem_cons_of_mem _ m)) ?_ ne
    have := h.qd
    rw [et] at this
    exact (List.pairwise_cons.mp this).2
theorem DbAt.setD (h : DbAt aD aT aW H L D) (f o : Int) : DbAt aD aT aW (upd H L.db (.ins aD L.dx (dbF L.r L.s L.e f o))) L { D with floor := f, opened := o } := by
  refine ⟨upd_same, upd_oth (Ne.symm (ins_ne h.db h.r)) h.r, upd_oth (Ne.symm (ins_ne h.db h.s)) h.s, upd_oth (Ne.symm (ins_ne h.db h.e)) h.e, ?_, ?_, h.rs, h.re, h.se, h.qn, h.qd, h.wd, h.ne⟩
  · refine h.rows.imp fun w x hw hx => upd_oth (fun z => ?_) hx
    unfold RowAt at hx
    rw [z, h.db] at hx
    injection hx with hx
    injection hx with _ _ hx
    exact absurd (congrArg Prod.fst (List.cons.inj hx).1) (show ¬ (("rows" : Str) = "record") by decide +kernel)
  · refine h.txs.imp fun x y hx hy => hy.keep fun t et => ?_
    subst et
    obtain ⟨z, h1, h2, _⟩ := h.tx hx
    refine ⟨fun u e => upd_oth (fun z => ?_) e, fun u e => upd_oth (Ne.symm (ins_ne h.db h2)) e⟩
    rw [z, h.db] at h1
    injection h1 with h1
    injection h1 with _ _ h1
    exact absurd (congrArg List.length h1) (by simp)
theorem DbAt.setQ {t : TxL} {ts : List (Option TxL)} {x : Tx} {st : List (Option Tx)} {rs : List (Option Str)} (h : DbAt aD aT aW H L D) (et : L.ts = some t :: ts) (es : D.stack = some x :: st) (hr : rs ≠ []) :
    DbAt aD aT aW (upd H t.q (.lst (rv oV rs))) L { D with stack := some ⟨x.num, rs⟩ :: st } := by
  have mt : some t ∈ L.ts := by rw [et]; exact List.mem_cons_self
  have a := h.txs
  rw [et, es] at a
  cases a with
  | cons a0 a =>
    obtain ⟨h1, h2, h3⟩ := a0
    obtain ⟨n1, n2, n3⟩ := h.qn t mt
    have qd := h.qd
    rw [et] at qd
    obtain ⟨qd1, _⟩ := List.pairwise_cons.mp qd
    refine ⟨upd_oth (ins_ne h.db h2) h.db, upd_oth (Ne.symm n1) h.r, upd_oth (Ne.symm n2) h.s, upd_oth (Ne.symm n3) h.e, h.rowsQ h2, ?_, h.rs, h.re, h.se, h.qn, h.qd, h.wd, by simp⟩
    rw [et]
    refine .cons ⟨upd_oth (ins_ne h1 h2) h1, upd_same, hr⟩ (a.imp fun z y hz hy => hy.keep fun u eu => ?_)
    subst eu
    obtain ⟨z, k1, _⟩ := h.tx (t := u) (by rw [et]; exact List.mem_cons_of_mem _ hz)
    exact ⟨fun o e => upd_oth (ins_ne k1 h2) e, fun o e => upd_oth (fun z => qd1 _ hz t u rfl rfl z.symm) e⟩
theorem Fr.set {b : Addr} {o : HO} (m : Mut L b) : Fr H (upd H b o) L L := .of_kp (Kp.refl.set m)
theorem Mut.ts {ts : List (Option TxL)} {b : Addr} (h : Mut { L with ts := ts } b) (k : ∀ t, some t ∈ ts → b = t.q → Mut L b ∨ H b = none) : Mut L b ∨ H b = none := by
  rcases h with h | h | h | h | ⟨t, m, h⟩ | h
  · exact .inl (.inl h)
  · exact .inl (.inr (.inl h))
  · exact .inl (.inr (.inr (.inl h)))
  · exact .inl (.inr (.inr (.inr (.inl h))))
  · exact k t m h
  · exact .inl (.inr (.inr (.inr (.inr (.inr h)))))
theorem Fr.pushT {t : TxL} {o : HO} (k : Kp (Mut L) H H') (hq : H t.q = none) : Fr H (upd H' L.s o) L { L with ts := some t :: L.ts } := by
  refine ⟨k.set DbAt.mutS, fun b hb => hb.ts fun u m e => ?_, rfl⟩
  rcases List.mem_cons.mp m with m | m
  · cases m
    exact .inr (e ▸ hq)
  · exact .inl (e ▸ DbAt.mutQ m)
theorem Fr.pushN {o : HO} : Fr H (upd H L.s o) L { L with ts := none :: L.ts } := by
  refine ⟨Kp.refl.set DbAt.mutS, fun b hb => hb.ts fun u m e => ?_, rfl⟩
  rcases List.mem_cons.mp m with m | m
  · cases m
  · exact .inl (e ▸ DbAt.mutQ m)
theorem Fr.popS {t : Option TxL} {ts : List (Option TxL)} {o : HO} (et : L.ts = t :: ts) : Fr H (upd H L.s o) L { L with ts := ts } := by
  refine ⟨Kp.refl.set DbAt.mutS, fun b hb => hb.ts fun u m e => ?_, rfl⟩
  exact .inl (e ▸ DbAt.mutQ (by rw [et]; exact List.mem_cons_of_mem _ m))
theorem Fr.same (k : Same H H') : Fr H H' L L := .of_kp (.of_same k)
/-- the top: None or a transaction -/
theorem DbAt.top (h : DbAt aD aT aW H L D) : (∃ ts st, L.ts = none :: ts ∧ D.stack = none :: st) ∨
    ∃ t ts x st y rs, L.ts = some t :: ts ∧ D.stack = some x :: st ∧ x.rs = y :: rs ∧ H t.t = some (.ins aT t.dt (txF x.num t.q)) ∧ H t.q = some (.lst (rv oV (y :: rs))) := by
  have a := h.txs
  have n := h.ne
  generalize L.ts = ts0 at a
  generalize D.stack = st0 at a n
  cases a with
  | nil => exact absurd rfl n
  | @cons x y l m r a =>
    cases x with
    | none => cases y with
      | none => exact .inl ⟨_, _, rfl, rfl⟩
      | some y => exact r.elim
    | some t => cases y with
      | none => exact r.elim
      | some x =>
        obtain ⟨r1, r2, r3⟩ := r
        obtain ⟨num, rs⟩ := x
        cases rs with
        | nil => exact absurd rfl r3
        | cons y rs => exact .inr ⟨t, _, ⟨num, y :: rs⟩, _, y, rs, rfl, rfl, rfl, r1, r2⟩
end
/-! ### the rows of a database -/
theorem All2.get {α β : Type} {R : α → β → Prop} {l : List α} {m : List β} (a : All2 R l m) : ∀ {i : Nat} {x : α}, l[i]? = some x → ∃ y, m[i]? = some y ∧ R x y := by
  induction a with
  | nil => intro i x h; simp at h
  | cons r _ ih =>
    intro i x h
    cases i with
    | zero =>
      cases h
      exact ⟨_, rfl, r⟩
    | succ i => exact ih h
theorem All2.setR {α β : Type} {R S : α → β → Prop} {l : List α} {m : List β} (a : All2 R l m) : ∀ {i : Nat} {x : α} {y : β}, l[i]? = some x → S x y → (∀ j x' y', j ≠ i → l[j]? = some x' → R x' y' → S x' y') → All2 S l (m.set i y) := by
  induction a with
  | nil => intro i x y h; simp at h
  | @cons u v l m r t ih =>
    intro i x y h s k
    cases i with
    | zero =>
      cases h
      refine .cons s ?_
      have k' : ∀ j x' y', l[j]? = some x' → R x' y' → S x' y' := fun j x' y' e q => k (j + 1) x' y' (by omega) e q
      clear ih k
      induction t with
      | nil => exact .nil
      | cons r2 _ ih2 => exact .cons (k' 0 _ _ rfl r2) (ih2 fun j x' y' e q => k' (j + 1) x' y' e q)
    | succ i => exact .cons (k 0 _ _ (by omega) rfl r) (ih h s fun j x' y' n e q => k (j + 1) x' y' (by omega) e q)
theorem All2.snoc {α β : Type} {R : α → β → Prop} {l : List α} {m : List β} {x : α} {y : β} (a : All2 R l m) (r : R x y) : All2 R (l ++ [x]) (m ++ [y]) := by
  induction a with
  | nil => exact .cons r .nil
  | cons r' _ ih => exact .cons r' ih
section
variable {aD aT aW : Addr} {H H' : Hp} {L : Lay} {D : Db}
theorem row_ne_db {w : Addr × Addr} {x : Row} (h : DbAt aD aT aW H L D) (hx : H w.1 = some (.ins aW w.2 (rwF x))) : L.db ≠ w.1 := fun z => by
  rw [← z, h.db] at hx
  injection hx with hx
  injection hx with _ _ hx
  exact absurd (congrArg Prod.fst (List.cons.inj hx).1) (show ¬ (("rows" : Str) = "record") by decide +kernel)
theorem row_ne_tx {w : Addr × Addr} {x : Row} (h : DbAt aD aT aW H L D) (hx : H w.1 = some (.ins aW w.2 (rwF x))) {t : TxL} (m : some t ∈ L.ts) : t.t ≠ w.1 := fun z => by
  obtain ⟨y, h1, _⟩ := h.tx m
  rw [← z, h1] at hx
  injection hx with hx
  injection hx with _ _ hx
  exact absurd (congrArg List.length hx) (by simp)
theorem DbAt.mutW {w : Addr × Addr} (h : w ∈ L.ws) : Mut L w.1 := .inr (.inr (.inr (.inr (.inr ⟨w, h, rfl⟩))))
theorem DbAt.mutR : Mut L L.r := .inr (.inl rfl)
theorem DbAt.setRow {i : Nat} {w : Addr × Addr} {x' : Row} (h : DbAt aD aT aW H L D) (hw : L.ws[i]? = some w) : DbAt aD aT aW (upd H w.1 (.ins aW w.2 (rwF x'))) L { D with rows := D.rows.set i x' } := by
  obtain ⟨x, _, hx⟩ := h.rows.get hw
  have hx : H w.1 = some (.ins aW w.2 (rwF x)) := hx
  refine ⟨upd_oth (row_ne_db h hx) h.db, upd_oth (Ne.symm (ins_ne hx h.r)) h.r, upd_oth (Ne.symm (ins_ne hx h.s)) h.s, upd_oth (Ne.symm (ins_ne hx h.e)) h.e, ?_, ?_, h.rs, h.re, h.se, h.qn, h.qd, h.wd, h.ne⟩
  · refine h.rows.setR hw upd_same fun j v y n hv hy => upd_oth (fun z => ?_) hy
    have hi : i < L.ws.length := (List.getElem?_eq_some_iff.mp hw).1
    have hj : j < L.ws.length := (List.getElem?_eq_some_iff.mp hv).1
    have wi : L.ws[i] = w := (List.getElem?_eq_some_iff.mp hw).2
    have wj : L.ws[j] = v := (List.getElem?_eq_some_iff.mp hv).2
    rcases Nat.lt_or_gt_of_ne n with lt | gt
    · exact (List.pairwise_iff_getElem.mp h.wd j i hj hi lt) (by rw [wi, wj]; exact z)
    · exact (List.pairwise_iff_getElem.mp h.wd i j hi hj gt) (by rw [wi, wj]; exact z.symm)
  · refine h.txs.imp fun t y ht hy => hy.keep fun u eu => ?_
    subst eu
    obtain ⟨z, _, h2, _⟩ := h.tx ht
    exact ⟨fun o e => upd_oth (row_ne_tx h hx ht) e, fun o e => upd_oth (Ne.symm (ins_ne hx h2)) e⟩
theorem DbAt.addRow {w : Addr × Addr} {x : Row} (h : DbAt aD aT aW H L D) (hx : H w.1 = some (.ins aW w.2 (rwF x))) (hn : ¬ Mut L w.1) :
    DbAt aD aT aW (upd H L.r (.lst ((L.ws ++ [w]).map fun w => .ref w.1))) { L with ws := L.ws ++ [w] } { D with rows := D.rows ++ [x] } := by
  refine ⟨upd_oth (ins_ne h.db h.r) h.db, upd_same, upd_oth (Ne.symm h.rs) h.s, upd_oth (Ne.symm h.re) h.e, (h.rowsQ h.r).snoc (upd_oth (ins_ne hx h.r) hx), h.txsQ h.r fun t m => (h.qn t m).1, h.rs, h.re, h.se, h.qn, h.qd, ?_, h.ne⟩
  refine List.pairwise_append.mpr ⟨h.wd, List.pairwise_singleton _ _, fun v hv u hu => ?_⟩
  rcases List.mem_singleton.mp hu with rfl
  exact fun z => hn (z ▸ DbAt.mutW hv)
theorem Fr.addRow {w : Addr × Addr} {o : HO} (k : Kp (Mut L) H H') (hq : H w.1 = none) : Fr H (upd H' L.r o) L { L with ws := L.ws ++ [w] } := by
  refine ⟨k.set DbAt.mutR, fun b hb => ?_, rfl⟩
  rcases hb with hb | hb | hb | hb | hb | ⟨v, hv, hb⟩
  · exact .inl (.inl hb)
  · exact .inl (.inr (.inl hb))
  · exact .inl (.inr (.inr (.inl hb)))
  · exact .inl (.inr (.inr (.inr (.inl hb))))
  · exact .inl (.inr (.inr (.inr (.inr (.inl hb)))))
  · rcases List.mem_append.mp hv with hv | hv
    · exact .inl (hb ▸ DbAt.mutW hv)
    · rcases List.mem_singleton.mp hv with rfl
      exact .inr (hb ▸ hq)
end
/-! ### held records -/
def heldS (ns : List Int) (l : List Str) (x : Row) : List Str := if x.fate = "open" ∧ x.holder ∈ ns then addT x.rcd l else l
def heldL (rows : List Row) (ns : List Int) : List Str := rows.foldl (heldS ns) []
theorem held_fold (ns : List Int) : ∀ (rows : List Row) (l : List Str), (∀ k, k ∈ rows.foldl (heldS ns) l ↔ k ∈ l ∨ ∃ x ∈ rows, x.fate = "open" ∧ x.holder ∈ ns ∧ x.rcd = k) ∧ (l.Nodup → (rows.foldl (heldS ns) l).Nodup) ∧ (rows.foldl (heldS ns) l).length ≤ l.length + rows.length
  | [], l => ⟨fun k => by simp, id, by simp⟩
  | x :: r, l => by
    obtain ⟨h1, h2, h3⟩ := held_fold ns r (heldS ns l x)
    refine ⟨fun k => ?_, fun h => h2 ?_, ?_⟩
    · rw [List.foldl_cons, h1 k]
      have e : k ∈ heldS ns l x ↔ k ∈ l ∨ (x.fate = "open" ∧ x.holder ∈ ns ∧ x.rcd = k) := by
        unfold heldS
        split
        · rename_i c
          rw [addT_mem]
          exact ⟨fun z => z.elim (fun e => .inr ⟨c.1, c.2, e.symm⟩) .inl, fun z => z.elim .inr fun e => .inl e.2.2.symm⟩
        · rename_i c
          exact ⟨.inl, fun z => z.elim id fun e => absurd ⟨e.1, e.2.1⟩ c⟩
      rw [e]
      constructor
      · rintro ((h | h) | ⟨y, hy, h⟩)
        · exact .inl h
        · exact .inr ⟨x, List.mem_cons_self, h⟩
        · exact .inr ⟨y, List.mem_cons_of_mem _ hy, h⟩
      · rintro (h | ⟨y, hy, h⟩)
        · exact .inl (.inl h)
        · rcases List.mem_cons.mp hy with rfl | hy
          · exact .inl (.inr h)
          · exact .inr ⟨y, hy, h⟩
    · unfold heldS
      split
      · exact addT_nd h
      · exact h
    · rw [List.foldl_cons, List.length_cons]
      have e : (heldS ns l x).length ≤ l.length + 1 := by
        unfold heldS
        split
        · exact addT_len
        · omega
      omega
theorem held_mem {rows : List Row} {ns : List Int} {k : Str} : k ∈ heldL rows ns ↔ ∃ x ∈ rows, x.fate = "open" ∧ x.holder ∈ ns ∧ x.rcd = k := by
  have := (held_fold ns rows []).1 k
  simpa [heldL] using this
theorem held_nd {rows : List Row} {ns : List Int} : (heldL rows ns).Nodup := (held_fold ns rows []).2.1 List.nodup_nil
theorem held_len {rows : List Row} {ns : List Int} : (heldL rows ns).length ≤ rows.length := by
  have := (held_fold ns rows []).2.2
  simpa [heldL] using this
theorem held_take {rows : List Row} {ns : List Int} {i : Nat} {x : Row} (h : rows[i]? = some x) : heldL (rows.take (i + 1)) ns = heldS ns (heldL (rows.take i) ns) x := by
  unfold heldL
  rw [List.take_add_one, h, List.foldl_append]; rfl
/-- the numbers of some transactions, the last first -/
def numsO (st : List (Option Tx)) : List Int := (st.filterMap fun t => t.map (·.num)).reverse
abbrev s_Mode_is_mode : Stmt := inClass (top 14) 9
theorem sc_Mode_is_mode : FnScope ["thing"] ["thing"] (defScope s_Mode_is_mode) := ⟨rfl, rfl, rfl, by decide +kernel, rfl, by decide +kernel, by decide +kernel⟩
abbrev s_is_word : Stmt := top 13
theorem sc_is_word : FnScope ["thing", "letter"] ["thing"] (defScope s_is_word) := ⟨rfl, rfl, rfl, by decide +kernel, rfl, by decide +kernel, by decide +kernel⟩
abbrev s_MissingU_initU : Stmt := inClass (top 8) 0
abbrev s_PresentU_initU : Stmt := inClass (top 9) 0
abbrev s_DoomedU_initU : Stmt := inClass (top 7) 0
abbrev s_RefusedU_initU : Stmt := inClass (top 10) 0
abbrev s_NoBlockU_initU : Stmt := inClass (top 5) 0
abbrev s_WaitsU_initU : Stmt := inClass (top 11) 0
abbrev s_NoRecordU_initU : Stmt := inClass (top 6) 0
abbrev s_BadWordU_initU : Stmt := inClass (top 3) 0
abbrev s_BadModeU_initU : Stmt := inClass (top 4) 0
abbrev s_WriteU_initU : Stmt := inClass (top 16) 0
theorem sc_WriteU_initU : FnScope ["self", "record", "value", "fate", "holder", "level"] ["self", "record", "value", "fate", "holder", "level"] (defScope s_WriteU_initU) := ⟨rfl, rfl, rfl, by decide +kernel, rfl, by decide +kernel, by decide +kernel⟩
abbrev s_TransactionU_initU : Stmt := inClass (top 17) 0
theorem sc_TransactionU_initU : FnScope ["self", "number"] ["self", "number"] (defScope s_TransactionU_initU) := ⟨rfl, rfl, rfl, by decide +kernel, rfl, by decide +kernel, by decide +kernel⟩
abbrev s_DatabaseU_initU : Stmt := inClass (top 18) 0
theorem sc_DatabaseU_initU : FnScope ["self"] ["self"] (defScope s_DatabaseU_initU) := ⟨rfl, rfl, rfl, by decide +kernel, rfl, by decide +kernel, by decide +kernel⟩
abbrev s_Database_begin : Stmt := inClass (top 18) 9
theorem sc_Database_begin : FnScope ["self"] ["self"] (defScope s_Database_begin) := ⟨rfl, rfl, rfl, by decide +kernel, rfl, by decide +kernel, by decide +kernel⟩
abbrev s_Database_enter_alone : Stmt := inClass (top 18) 7
theorem sc_Database_enter_alone : FnScope ["self", "mode"] ["self", "mode"] (defScope s_Database_enter_alone) := ⟨rfl, rfl, rfl, by decide +kernel, rfl, by decide +kernel, by decide +kernel⟩
abbrev s_Database_enter_inside : Stmt := inClass (top 18) 8
theorem sc_Database_enter_inside : FnScope ["self", "mode", "present"] ["self", "mode", "present"] (defScope s_Database_enter_inside) := ⟨rfl, rfl, rfl, by decide +kernel, rfl, by decide +kernel, by decide +kernel⟩
abbrev s_Database_enter : Stmt := inClass (top 18) 6
theorem sc_Database_enter : FnScope ["self", "mode"] ["self", "mode"] (defScope s_Database_enter) := ⟨rfl, rfl, rfl, by decide +kernel, rfl, by decide +kernel, by decide +kernel⟩
abbrev s_Database_doom : Stmt := inClass (top 18) 20
theorem sc_Database_doom : FnScope ["self", "first", "present"] ["self", "first"] (defScope s_Database_doom) := ⟨rfl, rfl, rfl, by decide +kernel, rfl, by decide +kernel, by decide +kernel⟩
abbrev s_Database_end_level : Stmt := inClass (top 18) 11
theorem sc_Database_end_level : FnScope ["self", "error", "present", "reason", "top", "row"] ["self", "error"] (defScope s_Database_end_level) := ⟨rfl, rfl, rfl, by decide +kernel, rfl, by decide +kernel, by decide +kernel⟩
abbrev s_Database_end_transaction : Stmt := inClass (top 18) 12
theorem sc_Database_end_transaction : FnScope ["self", "error", "commits", "present", "reason", "fate", "row"] ["self", "error", "commits"] (defScope s_Database_end_transaction) := ⟨rfl, rfl, rfl, by decide +kernel, rfl, by decide +kernel, by decide +kernel⟩
abbrev s_Database_leave : Stmt := inClass (top 18) 10
theorem sc_Database_leave : FnScope ["self", "error", "commits", "sort"] ["self", "error", "commits"] (defScope s_Database_leave) := ⟨rfl, rfl, rfl, by decide +kernel, rfl, by decide +kernel, by decide +kernel⟩
abbrev s_Database_held_by : Stmt := inClass (top 18) 21
theorem sc_Database_held_by : FnScope ["self", "numbers", "row"] ["self", "numbers"] (defScope s_Database_held_by) := ⟨rfl, rfl, rfl, by decide +kernel, rfl, by decide +kernel, by decide +kernel⟩
abbrev s_Database_held_records : Stmt := inClass (top 18) 22
theorem sc_Database_held_records : FnScope ["self", "one"] ["self"] (defScope s_Database_held_records) := ⟨rfl, rfl, rfl, by decide +kernel, rfl, by decide +kernel, by decide +kernel⟩
abbrev s_Database_outer_records : Stmt := inClass (top 18) 23
theorem sc_Database_outer_records : FnScope ["self", "one"] ["self"] (defScope s_Database_outer_records) := ⟨rfl, rfl, rfl, by decide +kernel, rfl, by decide +kernel, by decide +kernel⟩
abbrev s_Database_would_wait : Stmt := inClass (top 18) 13
theorem sc_Database_would_wait : FnScope ["self", "record"] ["self", "record"] (defScope s_Database_would_wait) := ⟨rfl, rfl, rfl, by decide +kernel, rfl, by decide +kernel, by decide +kernel⟩
abbrev s_Database_write : Stmt := inClass (top 18) 14
theorem sc_Database_write : FnScope ["self", "record", "value", "present"] ["self", "record", "value"] (defScope s_Database_write) := ⟨rfl, rfl, rfl, by decide +kernel, rfl, by decide +kernel, by decide +kernel⟩
abbrev s_DatabaseU_setitemU : Stmt := inClass (top 18) 15
theorem sc_DatabaseU_setitemU : FnScope ["self", "record", "value"] ["self", "record", "value"] (defScope s_DatabaseU_setitemU) := ⟨rfl, rfl, rfl, by decide +kernel, rfl, by decide +kernel, by decide +kernel⟩
abbrev s_law_pool : Stmt := top 20
theorem sc_law_pool : FnScope ["_law_script", "_law_at", "_law_cell", "_law_size", "_law_seed"] ["_law_script", "_law_at"] (defScope s_law_pool) := ⟨rfl, rfl, rfl, by decide +kernel, rfl, by decide +kernel, by decide +kernel⟩
abbrev s_law_draw : Stmt := top 21
theorem sc_law_draw : FnScope ["_law_pool_here", "_law_many", "_law_digit", "_law_count", "_law_mixed"] ["_law_pool_here", "_law_many"] (defScope s_law_draw) := ⟨rfl, rfl, rfl, by decide +kernel, rfl, by decide +kernel, by decide +kernel⟩
abbrev s_law_word : Stmt := top 22
theorem sc_law_word : FnScope ["_law_pool_here", "_law_letters", "_law_k"] ["_law_pool_here"] (defScope s_law_word) := ⟨rfl, rfl, rfl, by decide +kernel, rfl, by decide +kernel, by decide +kernel⟩
abbrev s_law_records : Stmt := top 23
theorem sc_law_records : FnScope ["_law_levels", "_law_found", "_law_level"] ["_law_levels"] (defScope s_law_records) := ⟨rfl, rfl, rfl, by decide +kernel, rfl, by decide +kernel, by decide +kernel⟩
abbrev s_law_outer : Stmt := top 24
theorem sc_law_outer : FnScope ["_law_stack", "_law_found", "_law_levels"] ["_law_stack"] (defScope s_law_outer) := ⟨rfl, rfl, rfl, by decide +kernel, rfl, by decide +kernel, by decide +kernel⟩
abbrev s_law_enter : Stmt := top 25
theorem sc_law_enter : FnScope ["_law_db", "_law_stack", "_law_sorts", "_law_mode", "_law_top", "e"] ["_law_db", "_law_stack", "_law_sorts", "_law_mode"] (defScope s_law_enter) := ⟨rfl, rfl, rfl, by decide +kernel, rfl, by decide +kernel, by decide +kernel⟩
abbrev s_law_leave : Stmt := top 26
theorem sc_law_leave : FnScope ["_law_db", "_law_stack", "_law_sorts", "_law_error", "_law_goes", "_law_raised", "e", "_law_sort", "_law_reason", "_law_records_here"] ["_law_db", "_law_stack", "_law_sorts", "_law_error", "_law_goes"] (defScope s_law_leave) := ⟨rfl, rfl, rfl, by decide +kernel, rfl, by decide +kernel, by decide +kernel⟩
abbrev s_law_write : Stmt := top 27
theorem sc_law_write : FnScope ["_law_db", "_law_stack", "_law_record", "_law_value", "_law_due", "e"] ["_law_db", "_law_stack", "_law_record", "_law_value"] (defScope s_law_write) := ⟨rfl, rfl, rfl, by decide +kernel, rfl, by decide +kernel, by decide +kernel⟩
abbrev s_law_step : Stmt := top 28
theorem sc_law_step : FnScope ["_law_pool_here", "_law_db", "_law_stack", "_law_sorts", "_law_words", "_law_deed", "_law_modes", "_law_error", "_law_word_here"] ["_law_pool_here", "_law_db", "_law_stack", "_law_sorts", "_law_words"] (defScope s_law_step) := ⟨rfl, rfl, rfl, by decide +kernel, rfl, by decide +kernel, by decide +kernel⟩
abbrev s_law : Stmt := top 29
theorem sc_law : FnScope ["_law_script", "_law_at", "_law_pool_here", "_law_db", "_law_stack", "_law_sorts", "_law_words", "_law_turn", "_law_held", "_law_outer_here", "_law_k"] ["_law_script"] (defScope s_law) := ⟨rfl, rfl, rfl, by decide +kernel, rfl, by decide +kernel, by decide +kernel⟩
abbrev ef_Missing : List (Str × Sum Nat Str) := [("word", .inr "missing"), ("mode", .inl 0)]
theorem ec_Missing {K : PySem.W.Frag} {C fI : Addr} {nm qn : Str} {N : Addr} {bs bm : List Value} {sn : List Str} {sub : List Value} {ab : Bool} {col : Option Bool} {dd : Option Addr} {k0 k1 k2 k3 k5 : Option Value}
    {oc : Value} {od : Option Addr} {doc pm : Value} {an : Option Addr} {cda cc : Addr} {ct : Value} {osl : Array (Option Value)} {ccl : Value} {cdd : Option Addr} {vs : Array Value} {ccs : Array (Option Value)} {tf : Tok} {cl : Value} {cld : Option Addr} {csl : Array (Option Value)}
    (h1 : K.lookup C = some (excClassObj nm qn C N bs bm true sn sub ab col dd k0 k1 k2 k3 k5 "ValueError.__new__")) (h2 : PySem.HandSPX.refsVE bm = true) (h3 : PySem.W.findIn K (.ref C) "__setattr__" = some (some (.builtin "object.__setattr__")))
    (h4 : PySem.W.findIn K (.ref C) "__getattribute__" = some (some (.builtin "BaseException.__getattribute__"))) (h5 : PySem.W.findIn K (.ref C) "__getattr__" = some none) (h6 : PySem.W.findIn K (.ref C) "__init__" = some (some (.ref fI)))
    (h7 : PySem.W.typeIn K (.ref fI) = some (.type "function")) (h8 : PySem.W.keepIn K (.ref C) = true) (h9 : PySem.W.subIn K (.ref C) (.type "BaseException") = some true) (h10 : PySem.W.subIn K (.ref C) (.type "ValueError") = some true)
    (h11 : PySem.W.typeIn K (.ref C) = some (.type "type")) (h12 : PySem.W.hasDictIn K C = true) (h13 : PySem.W.ks_superIn K C C "__init__" = some (some (.builtin "ValueError.__init__"))) (h14 : PySem.W.mroIn K C (.ref C) = some true) (h15 : PySem.W.exmOne K (.ref C) (.ref C) = some true)
    (h16 : PySem.W.nsIn K cStatics "thirdparty.any" = some none) (h17 : K.lookup fI = some ⟨oc, od, .func (PySem.W.ksFn "__init__" "Missing.__init__" (defArgs s_MissingU_initU) (defBody s_MissingU_initU) (defScope s_MissingU_initU) .none .none doc pm an (.ref cda) ct cc), osl⟩) (h18 : PySem.W.codeIn K (.ref cda) "Missing.__init__" = true)
    (h19 : K.lookup cda = some ⟨ccl, cdd, .fields vs, ccs⟩) (h20 : vs[2]? = some (.str P.main.file tf)) (h21 : K.lookup cc = some ⟨cl, cld, .cell (some (.ref C)), csl⟩) (nf0 : PySem.W.findIn K (.ref C) "word" = some none) (nf1 : PySem.W.findIn K (.ref C) "mode" = some none) : ErrC P K C fI s_MissingU_initU "Missing.__init__" ["mode"] ef_Missing := by
  refine ⟨⟨nm, qn, N, bs, bm, sn, sub, ab, col, dd, k0, k1, k2, k3, k5, h1, h2⟩, h3, h4, h5, ?_, h6, h7, h8, h9, h10, h11, h12, h13, h14, h15, h16, ⟨oc, od, doc, pm, an, cda, cc, ct, osl, ccl, cdd, vs, ccs, tf, cl, cld, csl, h17, h18, h19, h20, h21⟩, ⟨_, rfl, rfl⟩, (fun _ _ _ _ _ _ us hl => match us, hl with | [_, _], _ => rfl),
    ⟨_, _, _, _, _, _, _, _, _, rfl, (.con (.par (i := 0) rfl .nil)), fun L cda cc => ⟨_, rfl⟩⟩, rfl, rfl, rfl, by decide +kernel, by decide +kernel, rfl, rfl, by decide +kernel, by decide +kernel⟩
  intro p hp
  rcases List.mem_cons.mp hp with rfl | hp
  · exact nf0
  rcases List.mem_cons.mp hp with rfl | hp
  · exact nf1
  · exact absurd hp (by simp)
abbrev ef_Present : List (Str × Sum Nat Str) := [("word", .inr "present"), ("mode", .inl 0)]
theorem ec_Present {K : PySem.W.Frag} {C fI : Addr} {nm qn : Str} {N : Addr} {bs bm : List Value} {sn : List Str} {sub : List Value} {ab : Bool} {col : Option Bool} {dd : Option Addr} {k0 k1 k2 k3 k5 : Option Value}
    {oc : Value} {od : Option Addr} {doc pm : Value} {an : Option Addr} {cda cc : Addr} {ct : Value} {osl : Array (Option Value)} {ccl : Value} {cdd : Option Addr} {vs : Array Value} {ccs : Array (Option Value)} {tf : Tok} {cl : Value} {cld : Option Addr} {csl : Array (Option Value)}
    (h1 : K.lookup C = some (excClassObj nm qn C N bs bm true sn sub ab col dd k0 k1 k2 k3 k5 "ValueError.__new__")) (h2 : PySem.HandSPX.refsVE bm = true) (h3 : PySem.W.findIn K (.ref C) "__setattr__" = some (some (.builtin "object.__setattr__")))
    (h4 : PySem.W.findIn K (.ref C) "__getattribute__" = some (some (.builtin "BaseException.__getattribute__"))) (h5 : PySem.W.findIn K (.ref C) "__getattr__" = some none) (h6 : PySem.W.findIn K (.ref C) "__init__" = some (some (.ref fI)))
    (h7 : PySem.W.typeIn K (.ref fI) = some (.type "function")) (h8 : PySem.W.keepIn K (.ref C) = true) (h9 : PySem.W.subIn K (.ref C) (.type "BaseException") = some true) (h10 : PySem.W.subIn K (.ref C) (.type "ValueError") = some true)
    (h11 : PySem.W.typeIn K (.ref C) = some (.type "type")) (h12 : PySem.W.hasDictIn K C = true) (h13 : PySem.W.ks_superIn K C C "__init__" = some (some (.builtin "ValueError.__init__"))) (h14 : PySem.W.mroIn K C (.ref C) = some true) (h15 : PySem.W.exmOne K (.ref C) (.ref C) = some true)
    (h16 : PySem.W.nsIn K cStatics "thirdparty.any" = some none) (h17 : K.lookup fI = some ⟨oc, od, .func (PySem.W.ksFn "__init__" "Present.__init__" (defArgs s_PresentU_initU) (defBody s_PresentU_initU) (defScope s_PresentU_initU) .none .none doc pm an (.ref cda) ct cc), osl⟩) (h18 : PySem.W.codeIn K (.ref cda) "Present.__init__" = true)
    (h19 : K.lookup cda = some ⟨ccl, cdd, .fields vs, ccs⟩) (h20 : vs[2]? = some (.str P.main.file tf)) (h21 : K.lookup cc = some ⟨cl, cld, .cell (some (.ref C)), csl⟩) (nf0 : PySem.W.findIn K (.ref C) "word" = some none) (nf1 : PySem.W.findIn K (.ref C) "mode" = some none) : ErrC P K C fI s_PresentU_initU "Present.__init__" ["mode"] ef_Present := by
  refine ⟨⟨nm, qn, N, bs, bm, sn, sub, ab, col, dd, k0, k1, k2, k3, k5, h1, h2⟩, h3, h4, h5, ?_, h6, h7, h8, h9, h10, h11, h12, h13, h14, h15, h16, ⟨oc, od, doc, pm, an, cda, cc, ct, osl, ccl, cdd, vs, ccs, tf, cl, cld, csl, h17, h18, h19, h20, h21⟩, ⟨_, rfl, rfl⟩, (fun _ _ _ _ _ _ us hl => match us, hl with | [_, _], _ => rfl),
    ⟨_, _, _, _, _, _, _, _, _, rfl, (.con (.par (i := 0) rfl .nil)), fun L cda cc => ⟨_, rfl⟩⟩, rfl, rfl, rfl, by decide +kernel, by decide +kernel, rfl, rfl, by decide +kernel, by decide +kernel⟩
  intro p hp
  rcases List.mem_cons.mp hp with rfl | hp
  · exact nf0
  rcases List.mem_cons.mp hp with rfl | hp
  · exact nf1
  · exact absurd hp (by simp)
abbrev ef_Doomed : List (Str × Sum Nat Str) := [("word", .inr "doomed"), ("first", .inl 0)]
theorem ec_Doomed {K : PySem.W.Frag} {C fI : Addr} {nm qn : Str} {N : Addr} {bs bm : List Value} {sn : List Str} {sub : List Value} {ab : Bool} {col : Option Bool} {dd : Option Addr} {k0 k1 k2 k3 k5 : Option Value}
    {oc : Value} {od : Option Addr} {doc pm : Value} {an : Option Addr} {cda cc : Addr} {ct : Value} {osl : Array (Option Value)} {ccl : Value} {cdd : Option Addr} {vs : Array Value} {ccs : Array (Option Value)} {tf : Tok} {cl : Value} {cld : Option Addr} {csl : Array (Option Value)}
    (h1 : K.lookup C = some (excClassObj nm qn C N bs bm true sn sub ab col dd k0 k1 k2 k3 k5 "ValueError.__new__")) (h2 : PySem.HandSPX.refsVE bm = true) (h3 : PySem.W.findIn K (.ref C) "__setattr__" = some (some (.builtin "object.__setattr__")))
    (h4 : PySem.W.findIn K (.ref C) "__getattribute__" = some (some (.builtin "BaseException.__getattribute__"))) (h5 : PySem.W.findIn K (.ref C) "__getattr__" = some none) (h6 : PySem.W.findIn K (.ref C) "__init__" = some (some (.ref fI)))
    (h7 : PySem.W.typeIn K (.ref fI) = some (.type "function")) (h8 : PySem.W.keepIn K (.ref C) = true) (h9 : PySem.W.subIn K (.ref C) (.type "BaseException") = some true) (h10 : PySem.W.subIn K (.ref C) (.type "ValueError") = some true)
    (h11 : PySem.W.typeIn K (.ref C) = some (.type "type")) (h12 : PySem.W.hasDictIn K C = true) (h13 : PySem.W.ks_superIn K C C "__init__" = some (some (.builtin "ValueError.__init__"))) (h14 : PySem.W.mroIn K C (.ref C) = some true) (h15 : PySem.W.exmOne K (.ref C) (.ref C) = some true)
    (h16 : PySem.W.nsIn K cStatics "thirdparty.any" = some none) (h17 : K.lookup fI = some ⟨oc, od, .func (PySem.W.ksFn "__init__" "Doomed.__init__" (defArgs s_DoomedU_initU) (defBody s_DoomedU_initU) (defScope s_DoomedU_initU) .none .none doc pm an (.ref cda) ct cc), osl⟩) (h18 : PySem.W.codeIn K (.ref cda) "Doomed.__init__" = true)
    (h19 : K.lookup cda = some ⟨ccl, cdd, .fields vs, ccs⟩) (h20 : vs[2]? = some (.str P.main.file tf)) (h21 : K.lookup cc = some ⟨cl, cld, .cell (some (.ref C)), csl⟩) (nf0 : PySem.W.findIn K (.ref C) "word" = some none) (nf1 : PySem.W.findIn K (.ref C) "first" = some none) : ErrC P K C fI s_DoomedU_initU "Doomed.__init__" ["first"] ef_Doomed := by
  refine ⟨⟨nm, qn, N, bs, bm, sn, sub, ab, col, dd, k0, k1, k2, k3, k5, h1, h2⟩, h3, h4, h5, ?_, h6, h7, h8, h9, h10, h11, h12, h13, h14, h15, h16, ⟨oc, od, doc, pm, an, cda, cc, ct, osl, ccl, cdd, vs, ccs, tf, cl, cld, csl, h17, h18, h19, h20, h21⟩, ⟨_, rfl, rfl⟩, (fun _ _ _ _ _ _ us hl => match us, hl with | [_, _], _ => rfl),
    ⟨_, _, _, _, _, _, _, _, _, rfl, (.con (.par (i := 0) rfl .nil)), fun L cda cc => ⟨_, rfl⟩⟩, rfl, rfl, rfl, by decide +kernel, by decide +kernel, rfl, rfl, by decide +kernel, by decide +kernel⟩
  intro p hp
  rcases List.mem_cons.mp hp with rfl | hp
  · exact nf0
  rcases List.mem_cons.mp hp with rfl | hp
  · exact nf1
  · exact absurd hp (by simp)
abbrev ef_Refused : List (Str × Sum Nat Str) := [("word", .inr "refused")]
theorem ec_Refused {K : PySem.W.Frag} {C fI : Addr} {nm qn : Str} {N : Addr} {bs bm : List Value} {sn : List Str} {sub : List Value} {ab : Bool} {col : Option Bool} {dd : Option Addr} {k0 k1 k2 k3 k5 : Option Value}
    {oc : Value} {od : Option Addr} {doc pm : Value} {an : Option Addr} {cda cc : Addr} {ct : Value} {osl : Array (Option Value)} {ccl : Value} {cdd : Option Addr} {vs : Array Value} {ccs : Array (Option Value)} {tf : Tok} {cl : Value} {cld : Option Addr} {csl : Array (Option Value)}
    (h1 : K.lookup C = some (excClassObj nm qn C N bs bm true sn sub ab col dd k0 k1 k2 k3 k5 "ValueError.__new__")) (h2 : PySem.HandSPX.refsVE bm = true) (h3 : PySem.W.findIn K (.ref C) "__setattr__" = some (some (.builtin "object.__setattr__")))
    (h4 : PySem.W.findIn K (.ref C) "__getattribute__" = some (some (.builtin "BaseException.__getattribute__"))) (h5 : PySem.W.findIn K (.ref C) "__getattr__" = some none) (h6 : PySem.W.findIn K (.ref C) "__init__" = some (some (.ref fI)))
    (h7 : PySem.W.typeIn K (.ref fI) = some (.type "function")) (h8 : PySem.W.keepIn K (.ref C) = true) (h9 : PySem.W.subIn K (.ref C) (.type "BaseException") = some true) (h10 : PySem.W.subIn K (.ref C) (.type "ValueError") = some true)
    (h11 : PySem.W.typeIn K (.ref C) = some (.type "type")) (h12 : PySem.W.hasDictIn K C = true) (h13 : PySem.W.ks_superIn K C C "__init__" = some (some (.builtin "ValueError.__init__"))) (h14 : PySem.W.mroIn K C (.ref C) = some true) (h15 : PySem.W.exmOne K (.ref C) (.ref C) = some true)
    (h16 : PySem.W.nsIn K cStatics "thirdparty.any" = some none) (h17 : K.lookup fI = some ⟨oc, od, .func (PySem.W.ksFn "__init__" "Refused.__init__" (defArgs s_RefusedU_initU) (defBody s_RefusedU_initU) (defScope s_RefusedU_initU) .none .none doc pm an (.ref cda) ct cc), osl⟩) (h18 : PySem.W.codeIn K (.ref cda) "Refused.__init__" = true)
    (h19 : K.lookup cda = some ⟨ccl, cdd, .fields vs, ccs⟩) (h20 : vs[2]? = some (.str P.main.file tf)) (h21 : K.lookup cc = some ⟨cl, cld, .cell (some (.ref C)), csl⟩) (nf0 : PySem.W.findIn K (.ref C) "word" = some none) : ErrC P K C fI s_RefusedU_initU "Refused.__init__" [] ef_Refused := by
  refine ⟨⟨nm, qn, N, bs, bm, sn, sub, ab, col, dd, k0, k1, k2, k3, k5, h1, h2⟩, h3, h4, h5, ?_, h6, h7, h8, h9, h10, h11, h12, h13, h14, h15, h16, ⟨oc, od, doc, pm, an, cda, cc, ct, osl, ccl, cdd, vs, ccs, tf, cl, cld, csl, h17, h18, h19, h20, h21⟩, ⟨_, rfl, rfl⟩, (fun _ _ _ _ _ _ us hl => match us, hl with | [_], _ => rfl),
    ⟨_, _, _, _, _, _, _, _, _, rfl, (.con .nil), fun L cda cc => ⟨_, rfl⟩⟩, rfl, rfl, rfl, by decide +kernel, by decide +kernel, rfl, rfl, by decide +kernel, by decide +kernel⟩
  intro p hp
  rcases List.mem_cons.mp hp with rfl | hp
  · exact nf0
  · exact absurd hp (by simp)
abbrev ef_NoBlock : List (Str × Sum Nat Str) := []
theorem ec_NoBlock {K : PySem.W.Frag} {C fI : Addr} {nm qn : Str} {N : Addr} {bs bm : List Value} {sn : List Str} {sub : List Value} {ab : Bool} {col : Option Bool} {dd : Option Addr} {k0 k1 k2 k3 k5 : Option Value}
    {oc : Value} {od : Option Addr} {doc pm : Value} {an : Option Addr} {cda cc : Addr} {ct : Value} {osl : Array (Option Value)} {ccl : Value} {cdd : Option Addr} {vs : Array Value} {ccs : Array (Option Value)} {tf : Tok} {cl : Value} {cld : Option Addr} {csl : Array (Option Value)}
    (h1 : K.lookup C = some (excClassObj nm qn C N bs bm true sn sub ab col dd k0 k1 k2 k3 k5 "ValueError.__new__")) (h2 : PySem.HandSPX.refsVE bm = true) (h3 : PySem.W.findIn K (.ref C) "__setattr__" = some (some (.builtin "object.__setattr__")))
    (h4 : PySem.W.findIn K (.ref C) "__getattribute__" = some (some (.builtin "BaseException.__getattribute__"))) (h5 : PySem.W.findIn K (.ref C) "__getattr__" = some none) (h6 : PySem.W.findIn K (.ref C) "__init__" = some (some (.ref fI)))
    (h7 : PySem.W.typeIn K (.ref fI) = some (.type "function")) (h8 : PySem.W.keepIn K (.ref C) = true) (h9 : PySem.W.subIn K (.ref C) (.type "BaseException") = some true) (h10 : PySem.W.subIn K (.ref C) (.type "ValueError") = some true)
    (h11 : PySem.W.typeIn K (.ref C) = some (.type "type")) (h12 : PySem.W.hasDictIn K C = true) (h13 : PySem.W.ks_superIn K C C "__init__" = some (some (.builtin "ValueError.__init__"))) (h14 : PySem.W.mroIn K C (.ref C) = some true) (h15 : PySem.W.exmOne K (.ref C) (.ref C) = some true)
    (h16 : PySem.W.nsIn K cStatics "thirdparty.any" = some none) (h17 : K.lookup fI = some ⟨oc, od, .func (PySem.W.ksFn "__init__" "NoBlock.__init__" (defArgs s_NoBlockU_initU) (defBody s_NoBlockU_initU) (defScope s_NoBlockU_initU) .none .none doc pm an (.ref cda) ct cc), osl⟩) (h18 : PySem.W.codeIn K (.ref cda) "NoBlock.__init__" = true)
    (h19 : K.lookup cda = some ⟨ccl, cdd, .fields vs, ccs⟩) (h20 : vs[2]? = some (.str P.main.file tf)) (h21 : K.lookup cc = some ⟨cl, cld, .cell (some (.ref C)), csl⟩)  : ErrC P K C fI s_NoBlockU_initU "NoBlock.__init__" [] ef_NoBlock := by
  refine ⟨⟨nm, qn, N, bs, bm, sn, sub, ab, col, dd, k0, k1, k2, k3, k5, h1, h2⟩, h3, h4, h5, ?_, h6, h7, h8, h9, h10, h11, h12, h13, h14, h15, h16, ⟨oc, od, doc, pm, an, cda, cc, ct, osl, ccl, cdd, vs, ccs, tf, cl, cld, csl, h17, h18, h19, h20, h21⟩, ⟨_, rfl, rfl⟩, (fun _ _ _ _ _ _ us hl => match us, hl with | [_], _ => rfl),
    ⟨_, _, _, _, _, _, _, _, _, rfl, .nil, fun L cda cc => ⟨_, rfl⟩⟩, rfl, rfl, rfl, by decide +kernel, by decide +kernel, rfl, rfl, by decide +kernel, by decide +kernel⟩
  intro p hp
  exact absurd hp (by simp)
abbrev ef_Waits : List (Str × Sum Nat Str) := [("word", .inr "waits"), ("record", .inl 0)]
theorem ec_Waits {K : PySem.W.Frag} {C fI : Addr} {nm qn : Str} {N : Addr} {bs bm : List Value} {sn : List Str} {sub : List Value} {ab : Bool} {col : Option Bool} {dd : Option Addr} {k0 k1 k2 k3 k5 : Option Value}
    {oc : Value} {od : Option Addr} {doc pm : Value} {an : Option Addr} {cda cc : Addr} {ct : Value} {osl : Array (Option Value)} {ccl : Value} {cdd : Option Addr} {vs : Array Value} {ccs : Array (Option Value)} {tf : Tok} {cl : Value} {cld : Option Addr} {csl : Array (Option Value)}
    (h1 : K.lookup C = some (excClassObj nm qn C N bs bm true sn sub ab col dd k0 k1 k2 k3 k5 "ValueError.__new__")) (h2 : PySem.HandSPX.refsVE bm = true) (h3 : PySem.W.findIn K (.ref C) "__setattr__" = some (some (.builtin "object.__setattr__")))
    (h4 : PySem.W.findIn K (.ref C) "__getattribute__" = some (some (.builtin "BaseException.__getattribute__"))) (h5 : PySem.W.findIn K (.ref C) "__getattr__" = some none) (h6 : PySem.W.findIn K (.ref C) "__init__" = some (some (.ref fI)))
    (h7 : PySem.W.typeIn K (.ref fI) = some (.type "function")) (h8 : PySem.W.keepIn K (.ref C) = true) (h9 : PySem.W.subIn K (.ref C) (.type "BaseException") = some true) (h10 : PySem.W.subIn K (.ref C) (.type "ValueError") = some true)
    (h11 : PySem.W.typeIn K (.ref C) = some (.type "type")) (h12 : PySem.W.hasDictIn K C = true) (h13 : PySem.W.ks_superIn K C C "__init__" = some (some (.builtin "ValueError.__init__"))) (h14 : PySem.W.mroIn K C (.ref C) = some true) (h15 : PySem.W.exmOne K (.ref C) (.ref C) = some true)
    (h16 : PySem.W.nsIn K cStatics "thirdparty.any" = some none) (h17 : K.lookup fI = some ⟨oc, od, .func (PySem.W.ksFn "__init__" "Waits.__init__" (defArgs s_WaitsU_initU) (defBody s_WaitsU_initU) (defScope s_WaitsU_initU) .none .none doc pm an (.ref cda) ct cc), osl⟩) (h18 : PySem.W.codeIn K (.ref cda) "Waits.__init__" = true)
    (h19 : K.lookup cda = some ⟨ccl, cdd, .fields vs, ccs⟩) (h20 : vs[2]? = some (.str P.main.file tf)) (h21 : K.lookup cc = some ⟨cl, cld, .cell (some (.ref C)), csl⟩) (nf0 : PySem.W.findIn K (.ref C) "word" = some none) (nf1 : PySem.W.findIn K (.ref C) "record" = some none) : ErrC P K C fI s_WaitsU_initU "Waits.__init__" ["record"] ef_Waits := by
  refine ⟨⟨nm, qn, N, bs, bm, sn, sub, ab, col, dd, k0, k1, k2, k3, k5, h1, h2⟩, h3, h4, h5, ?_, h6, h7, h8, h9, h10, h11, h12, h13, h14, h15, h16, ⟨oc, od, doc, pm, an, cda, cc, ct, osl, ccl, cdd, vs, ccs, tf, cl, cld, csl, h17, h18, h19, h20, h21⟩, ⟨_, rfl, rfl⟩, (fun _ _ _ _ _ _ us hl => match us, hl with | [_, _], _ => rfl),
    ⟨_, _, _, _, _, _, _, _, _, rfl, (.con (.par (i := 0) rfl .nil)), fun L cda cc => ⟨_, rfl⟩⟩, rfl, rfl, rfl, by decide +kernel, by decide +kernel, rfl, rfl, by decide +kernel, by decide +kernel⟩
  intro p hp
  rcases List.mem_cons.mp hp with rfl | hp
  · exact nf0
  rcases List.mem_cons.mp hp with rfl | hp
  · exact nf1
  · exact absurd hp (by simp)
abbrev ef_NoRecord : List (Str × Sum Nat Str) := [("record", .inl 0)]
theorem ec_NoRecord {K : PySem.W.Frag} {C fI : Addr} {nm qn : Str} {N : Addr} {bs bm : List Value} {sn : List Str} {sub : List Value} {ab : Bool} {col : Option Bool} {dd : Option Addr} {k0 k1 k2 k3 k5 : Option Value}
    {oc : Value} {od : Option Addr} {doc pm : Value} {an : Option Addr} {cda cc : Addr} {ct : Value} {osl : Array (Option Value)} {ccl : Value} {cdd : Option Addr} {vs : Array Value} {ccs : Array (Option Value)} {tf : Tok} {cl : Value} {cld : Option Addr} {csl : Array (Option Value)}
    (h1 : K.lookup C = some (excClassObj nm qn C N bs bm true sn sub ab col dd k0 k1 k2 k3 k5 "ValueError.__new__")) (h2 : PySem.HandSPX.refsVE bm = true) (h3 : PySem.W.findIn K (.ref C) "__setattr__" = some (some (.builtin "object.__setattr__")))
    (h4 : PySem.W.findIn K (.ref C) "__getattribute__" = some (some (.builtin "BaseException.__getattribute__"))) (h5 : PySem.W.findIn K (.ref C) "__getattr__" = some none) (h6 : PySem.W.findIn K (.ref C) "__init__" = some (some (.ref fI)))
    (h7 : PySem.W.typeIn K (.ref fI) = some (.type "function")) (h8 : PySem.W.keepIn K (.ref C) = true) (h9 : PySem.W.subIn K (.ref C) (.type "BaseException") = some true) (h10 : PySem.W.subIn K (.ref C) (.type "ValueError") = some true)
    (h11 : PySem.W.typeIn K (.ref C) = some (.type "type")) (h12 : PySem.W.hasDictIn K C = true) (h13 : PySem.W.ks_superIn K C C "__init__" = some (some (.builtin "ValueError.__init__"))) (h14 : PySem.W.mroIn K C (.ref C) = some true) (h15 : PySem.W.exmOne K (.ref C) (.ref C) = some true)
    (h16 : PySem.W.nsIn K cStatics "thirdparty.any" = some none) (h17 : K.lookup fI = some ⟨oc, od, .func (PySem.W.ksFn "__init__" "NoRecord.__init__" (defArgs s_NoRecordU_initU) (defBody s_NoRecordU_initU) (defScope s_NoRecordU_initU) .none .none doc pm an (.ref cda) ct cc), osl⟩) (h18 : PySem.W.codeIn K (.ref cda) "NoRecord.__init__" = true)
    (h19 : K.lookup cda = some ⟨ccl, cdd, .fields vs, ccs⟩) (h20 : vs[2]? = some (.str P.main.file tf)) (h21 : K.lookup cc = some ⟨cl, cld, .cell (some (.ref C)), csl⟩) (nf0 : PySem.W.findIn K (.ref C) "record" = some none) : ErrC P K C fI s_NoRecordU_initU "NoRecord.__init__" ["record"] ef_NoRecord := by
  refine ⟨⟨nm, qn, N, bs, bm, sn, sub, ab, col, dd, k0, k1, k2, k3, k5, h1, h2⟩, h3, h4, h5, ?_, h6, h7, h8, h9, h10, h11, h12, h13, h14, h15, h16, ⟨oc, od, doc, pm, an, cda, cc, ct, osl, ccl, cdd, vs, ccs, tf, cl, cld, csl, h17, h18, h19, h20, h21⟩, ⟨_, rfl, rfl⟩, (fun _ _ _ _ _ _ us hl => match us, hl with | [_, _], _ => rfl),
    ⟨_, _, _, _, _, _, _, _, _, rfl, (.par (i := 0) rfl .nil), fun L cda cc => ⟨_, rfl⟩⟩, rfl, rfl, rfl, by decide +kernel, by decide +kernel, rfl, rfl, by decide +kernel, by decide +kernel⟩
  intro p hp
  rcases List.mem_cons.mp hp with rfl | hp
  · exact nf0
  · exact absurd hp (by simp)
abbrev ef_BadWord : List (Str × Sum Nat Str) := [("word", .inl 0)]
theorem ec_BadWord {K : PySem.W.Frag} {C fI : Addr} {nm qn : Str} {N : Addr} {bs bm : List Value} {sn : List Str} {sub : List Value} {ab : Bool} {col : Option Bool} {dd : Option Addr} {k0 k1 k2 k3 k5 : Option Value}
    {oc : Value} {od : Option Addr} {doc pm : Value} {an : Option Addr} {cda cc : Addr} {ct : Value} {osl : Array (Option Value)} {ccl : Value} {cdd : Option Addr} {vs : Array Value} {ccs : Array (Option Value)} {tf : Tok} {cl : Value} {cld : Option Addr} {csl : Array (Option Value)}
    (h1 : K.lookup C = some (excClassObj nm qn C N bs bm true sn sub ab col dd k0 k1 k2 k3 k5 "ValueError.__new__")) (h2 : PySem.HandSPX.refsVE bm = true) (h3 : PySem.W.findIn K (.ref C) "__setattr__" = some (some (.builtin "object.__setattr__")))
    (h4 : PySem.W.findIn K (.ref C) "__getattribute__" = some (some (.builtin "BaseException.__getattribute__"))) (h5 : PySem.W.findIn K (.ref C) "__getattr__" = some none) (h6 : PySem.W.findIn K (.ref C) "__init__" = some (some (.ref fI)))
    (h7 : PySem.W.typeIn K (.ref fI) = some (.type "function")) (h8 : PySem.W.keepIn K (.ref C) = true) (h9 : PySem.W.subIn K (.ref C) (.type "BaseException") = some true) (h10 : PySem.W.subIn K (.ref C) (.type "ValueError") = some true)
    (h11 : PySem.W.typeIn K (.ref C) = some (.type "type")) (h12 : PySem.W.hasDictIn K C = true) (h13 : PySem.W.ks_superIn K C C "__init__" = some (some (.builtin "ValueError.__init__"))) (h14 : PySem.W.mroIn K C (.ref C) = some true) (h15 : PySem.W.exmOne K (.ref C) (.ref C) = some true)
    (h16 : PySem.W.nsIn K cStatics "thirdparty.any" = some none) (h17 : K.lookup fI = some ⟨oc, od, .func (PySem.W.ksFn "__init__" "BadWord.__init__" (defArgs s_BadWordU_initU) (defBody s_BadWordU_initU) (defScope s_BadWordU_initU) .none .none doc pm an (.ref cda) ct cc), osl⟩) (h18 : PySem.W.codeIn K (.ref cda) "BadWord.__init__" = true)
    (h19 : K.lookup cda = some ⟨ccl, cdd, .fields vs, ccs⟩) (h20 : vs[2]? = some (.str P.main.file tf)) (h21 : K.lookup cc = some ⟨cl, cld, .cell (some (.ref C)), csl⟩) (nf0 : PySem.W.findIn K (.ref C) "word" = some none) : ErrC P K C fI s_BadWordU_initU "BadWord.__init__" ["word"] ef_BadWord := by
  refine ⟨⟨nm, qn, N, bs, bm, sn, sub, ab, col, dd, k0, k1, k2, k3, k5, h1, h2⟩, h3, h4, h5, ?_, h6, h7, h8, h9, h10, h11, h12, h13, h14, h15, h16, ⟨oc, od, doc, pm, an, cda, cc, ct, osl, ccl, cdd, vs, ccs, tf, cl, cld, csl, h17, h18, h19, h20, h21⟩, ⟨_, rfl, rfl⟩, (fun _ _ _ _ _ _ us hl => match us, hl with | [_, _], _ => rfl),
    ⟨_, _, _, _, _, _, _, _, _, rfl, (.par (i := 0) rfl .nil), fun L cda cc => ⟨_, rfl⟩⟩, rfl, rfl, rfl, by decide +kernel, by decide +kernel, rfl, rfl, by decide +kernel, by decide +kernel⟩
  intro p hp
  rcases List.mem_cons.mp hp with rfl | hp
  · exact nf0
  · exact absurd hp (by simp)
abbrev ef_BadMode : List (Str × Sum Nat Str) := [("mode", .inl 0)]
theorem ec_BadMode {K : PySem.W.Frag} {C fI : Addr} {nm qn : Str} {N : Addr} {bs bm : List Value} {sn : List Str} {sub : List Value} {ab : Bool} {col : Option Bool} {dd : Option Addr} {k0 k1 k2 k3 k5 : Option Value}
    {oc : Value} {od : Option Addr} {doc pm : Value} {an : Option Addr} {cda cc : Addr} {ct : Value} {osl : Array (Option Value)} {ccl : Value} {cdd : Option Addr} {vs : Array Value} {ccs : Array (Option Value)} {tf : Tok} {cl : Value} {cld : Option Addr} {csl : Array (Option Value)}
    (h1 : K.lookup C = some (excClassObj nm qn C N bs bm true sn sub ab col dd k0 k1 k2 k3 k5 "ValueError.__new__")) (h2 : PySem.HandSPX.refsVE bm = true) (h3 : PySem.W.findIn K (.ref C) "__setattr__" = some (some (.builtin "object.__setattr__")))
    (h4 : PySem.W.findIn K (.ref C) "__getattribute__" = some (some (.builtin "BaseException.__getattribute__"))) (h5 : PySem.W.findIn K (.ref C) "__getattr__" = some none) (h6 : PySem.W.findIn K (.ref C) "__init__" = some (some (.ref fI)))
    (h7 : PySem.W.typeIn K (.ref fI) = some (.type "function")) (h8 : PySem.W.keepIn K (.ref C) = true) (h9 : PySem.W.subIn K (.ref C) (.type "BaseException") = some true) (h10 : PySem.W.subIn K (.ref C) (.type "ValueError") = some true)
    (h11 : PySem.W.typeIn K (.ref C) = some (.type "type")) (h12 : PySem.W.hasDictIn K C = true) (h13 : PySem.W.ks_superIn K C C "__init__" = some (some (.builtin "ValueError.__init__"))) (h14 : PySem.W.mroIn K C (.ref C) = some true) (h15 : PySem.W.exmOne K (.ref C) (.ref C) = some true)
    (h16 : PySem.W.nsIn K cStatics "thirdparty.any" = some none) (h17 : K.lookup fI = some ⟨oc, od, .func (PySem.W.ksFn "__init__" "BadMode.__init__" (defArgs s_BadModeU_initU) (defBody s_BadModeU_initU) (defScope s_BadModeU_initU) .none .none doc pm an (.ref cda) ct cc), osl⟩) (h18 : PySem.W.codeIn K (.ref cda) "BadMode.__init__" = true)
    (h19 : K.lookup cda = some ⟨ccl, cdd, .fields vs, ccs⟩) (h20 : vs[2]? = some (.str P.main.file tf)) (h21 : K.lookup cc = some ⟨cl, cld, .cell (some (.ref C)), csl⟩) (nf0 : PySem.W.findIn K (.ref C) "mode" = some none) : ErrC P K C fI s_BadModeU_initU "BadMode.__init__" ["mode"] ef_BadMode := by
  refine ⟨⟨nm, qn, N, bs, bm, sn, sub, ab, col, dd, k0, k1, k2, k3, k5, h1, h2⟩, h3, h4, h5, ?_, h6, h7, h8, h9, h10, h11, h12, h13, h14, h15, h16, ⟨oc, od, doc, pm, an, cda, cc, ct, osl, ccl, cdd, vs, ccs, tf, cl, cld, csl, h17, h18, h19, h20, h21⟩, ⟨_, rfl, rfl⟩, (fun _ _ _ _ _ _ us hl => match us, hl with | [_, _], _ => rfl),
    ⟨_, _, _, _, _, _, _, _, _, rfl, (.par (i := 0) rfl .nil), fun L cda cc => ⟨_, rfl⟩⟩, rfl, rfl, rfl, by decide +kernel, by decide +kernel, rfl, rfl, by decide +kernel, by decide +kernel⟩
  intro p hp
  rcases List.mem_cons.mp hp with rfl | hp
  · exact nf0
  · exact absurd hp (by simp)
structure Ad where
  Mode : Addr
  Mode_ALL : Addr
  Mode_is_mode : Addr
  p_Mode_is_mode : Addr
  is_word : Addr
  Missing : Addr
  MissingU_initU : Addr
  Present : Addr
  PresentU_initU : Addr
  Doomed : Addr
  DoomedU_initU : Addr
  Refused : Addr
  RefusedU_initU : Addr
  NoBlock : Addr
  NoBlockU_initU : Addr
  Waits : Addr
  WaitsU_initU : Addr
  NoRecord : Addr
  NoRecordU_initU : Addr
  BadWord : Addr
  BadWordU_initU : Addr
  BadMode : Addr
  BadModeU_initU : Addr
  Write : Addr
  WriteU_initU : Addr
  Transaction : Addr
  TransactionU_initU : Addr
  Database : Addr
  DatabaseU_initU : Addr
  Database_begin : Addr
  Database_enter_alone : Addr
  Database_enter_inside : Addr
  Database_enter : Addr
  Database_doom : Addr
  Database_end_level : Addr
  Database_end_transaction : Addr
  Database_leave : Addr
  Database_held_by : Addr
  Database_held_records : Addr
  Database_outer_records : Addr
  Database_would_wait : Addr
  Database_write : Addr
  DatabaseU_setitemU : Addr
  law_pool : Addr
  law_draw : Addr
  law_word : Addr
  law_records : Addr
  law_outer : Addr
  law_enter : Addr
  law_leave : Addr
  law_write : Addr
  law_step : Addr
  law : Addr
structure Fd where
  Mode_is_mode : FuncData
  is_word : FuncData
  WriteU_initU : FuncData
  TransactionU_initU : FuncData
  DatabaseU_initU : FuncData
  Database_begin : FuncData
  Database_enter_alone : FuncData
  Database_enter_inside : FuncData
  Database_enter : FuncData
  Database_doom : FuncData
  Database_end_level : FuncData
  Database_end_transaction : FuncData
  Database_leave : FuncData
  Database_held_by : FuncData
  Database_held_records : FuncData
  Database_outer_records : FuncData
  Database_would_wait : FuncData
  Database_write : FuncData
  DatabaseU_setitemU : FuncData
  law_pool : FuncData
  law_draw : FuncData
  law_word : FuncData
  law_records : FuncData
  law_outer : FuncData
  law_enter : FuncData
  law_leave : FuncData
  law_write : FuncData
  law_step : FuncData
  law : FuncData
structure Txt (K : PySem.W.Frag) (mg : Str → Option Value) (a : Ad) (d : Fd) : Prop where
  g_Mode : mg "Mode" = some (.ref a.Mode)
  r_Mode : ClX.CRead K a.Mode (.type "type")
  c_Mode_JOIN : ∃ u, ClX.CVal K a.Mode (.type "type") "JOIN" (.str "join") u
  c_Mode_INNER : ∃ u, ClX.CVal K a.Mode (.type "type") "INNER" (.str "inner") u
  c_Mode_APART : ∃ u, ClX.CVal K a.Mode (.type "type") "APART" (.str "apart") u
  c_Mode_MUST : ∃ u, ClX.CVal K a.Mode (.type "type") "MUST" (.str "must") u
  c_Mode_EITHER : ∃ u, ClX.CVal K a.Mode (.type "type") "EITHER" (.str "either") u
  c_Mode_NEVER : ∃ u, ClX.CVal K a.Mode (.type "type") "NEVER" (.str "never") u
  c_Mode_OUTSIDE : ∃ u, ClX.CVal K a.Mode (.type "type") "OUTSIDE" (.str "outside") u
  c_Mode_ALONE : ∃ u, ClX.CVal K a.Mode (.type "type") "ALONE" (.str "alone") u
  c_Mode_ALL : ∃ u, ClX.CVal K a.Mode (.type "type") "ALL" (.ref a.Mode_ALL) u
  q_Mode_ALL : (∀ H, SqT K H a.Mode_ALL [.str "join", .str "inner", .str "apart", .str "must", .str "either", .str "never", .str "outside", .str "alone"])
  k_Mode_ALL : (∃ o, K.lookup a.Mode_ALL = some o ∧ o.cls = .type "tuple")
  Mode_is_mode : Fun K "is_mode" "Mode.is_mode" s_Mode_is_mode a.Mode_is_mode d.Mode_is_mode
  b_Mode_is_mode : Binds K d.Mode_is_mode ["thing"] []
  s_Mode_is_mode : SMet K a.Mode (.type "type") "is_mode" a.p_Mode_is_mode a.Mode_is_mode
  is_word : Fun K "is_word" "is_word" s_is_word a.is_word d.is_word
  b_is_word : Binds K d.is_word ["thing"] []
  g_is_word : mg "is_word" = some (.ref a.is_word)
  g_Missing : mg "Missing" = some (.ref a.Missing)
  e_Missing : ErrC P K a.Missing a.MissingU_initU s_MissingU_initU "Missing.__init__" ["mode"] ef_Missing
  g_Present : mg "Present" = some (.ref a.Present)
  e_Present : ErrC P K a.Present a.PresentU_initU s_PresentU_initU "Present.__init__" ["mode"] ef_Present
  g_Doomed : mg "Doomed" = some (.ref a.Doomed)
  e_Doomed : ErrC P K a.Doomed a.DoomedU_initU s_DoomedU_initU "Doomed.__init__" ["first"] ef_Doomed
  g_Refused : mg "Refused" = some (.ref a.Refused)
  e_Refused : ErrC P K a.Refused a.RefusedU_initU s_RefusedU_initU "Refused.__init__" [] ef_Refused
  g_NoBlock : mg "NoBlock" = some (.ref a.NoBlock)
  e_NoBlock : ErrC P K a.NoBlock a.NoBlockU_initU s_NoBlockU_initU "NoBlock.__init__" [] ef_NoBlock
  g_Waits : mg "Waits" = some (.ref a.Waits)
  e_Waits : ErrC P K a.Waits a.WaitsU_initU s_WaitsU_initU "Waits.__init__" ["record"] ef_Waits
  g_NoRecord : mg "NoRecord" = some (.ref a.NoRecord)
  e_NoRecord : ErrC P K a.NoRecord a.NoRecordU_initU s_NoRecordU_initU "NoRecord.__init__" ["record"] ef_NoRecord
  g_BadWord : mg "BadWord" = some (.ref a.BadWord)
  e_BadWord : ErrC P K a.BadWord a.BadWordU_initU s_BadWordU_initU "BadWord.__init__" ["word"] ef_BadWord
  g_BadMode : mg "BadMode" = some (.ref a.BadMode)
  e_BadMode : ErrC P K a.BadMode a.BadModeU_initU s_BadModeU_initU "BadMode.__init__" ["mode"] ef_BadMode
  x_Present_Missing : PySem.W.exmOne K (.ref a.Present) (.ref a.Missing) = some false
  x_Doomed_Missing : PySem.W.exmOne K (.ref a.Doomed) (.ref a.Missing) = some false
  x_Doomed_Present : PySem.W.exmOne K (.ref a.Doomed) (.ref a.Present) = some false
  x_Refused_Doomed : PySem.W.exmOne K (.ref a.Refused) (.ref a.Doomed) = some false
  x_Waits_Doomed : PySem.W.exmOne K (.ref a.Waits) (.ref a.Doomed) = some false
  g_Write : mg "Write" = some (.ref a.Write)
  k_Write : Cls K a.Write
  na_Write_record : NoAttr K a.Write "record"
  na_Write_value : NoAttr K a.Write "value"
  na_Write_fate : NoAttr K a.Write "fate"
  na_Write_holder : NoAttr K a.Write "holder"
  na_Write_level : NoAttr K a.Write "level"
  WriteU_initU : Fun K "__init__" "Write.__init__" s_WriteU_initU a.WriteU_initU d.WriteU_initU
  b_WriteU_initU : Binds K d.WriteU_initU ["self", "record", "value", "fate", "holder", "level"] []
  mk_Write : Mk K a.Write a.WriteU_initU
  g_Transaction : mg "Transaction" = some (.ref a.Transaction)
  k_Transaction : Cls K a.Transaction
  na_Transaction_number : NoAttr K a.Transaction "number"
  na_Transaction_reasons : NoAttr K a.Transaction "reasons"
  TransactionU_initU : Fun K "__init__" "Transaction.__init__" s_TransactionU_initU a.TransactionU_initU d.TransactionU_initU
  b_TransactionU_initU : Binds K d.TransactionU_initU ["self", "number"] []
  mk_Transaction : Mk K a.Transaction a.TransactionU_initU
  g_Database : mg "Database" = some (.ref a.Database)
  k_Database : Cls K a.Database
  na_Database_rows : NoAttr K a.Database "rows"
  na_Database_stack : NoAttr K a.Database "stack"
  na_Database_entered : NoAttr K a.Database "entered"
  na_Database_floor : NoAttr K a.Database "floor"
  na_Database_opened : NoAttr K a.Database "opened"
  DatabaseU_initU : Fun K "__init__" "Database.__init__" s_DatabaseU_initU a.DatabaseU_initU d.DatabaseU_initU
  b_DatabaseU_initU : Binds K d.DatabaseU_initU ["self"] []
  mk_Database : Mk K a.Database a.DatabaseU_initU
  Database_begin : Fun K "begin" "Database.begin" s_Database_begin a.Database_begin d.Database_begin
  b_Database_begin : Binds K d.Database_begin ["self"] []
  m_Database_begin : Meth K a.Database "begin" a.Database_begin
  Database_enter_alone : Fun K "enter_alone" "Database.enter_alone" s_Database_enter_alone a.Database_enter_alone d.Database_enter_alone
  b_Database_enter_alone : Binds K d.Database_enter_alone ["self", "mode"] []
  m_Database_enter_alone : Meth K a.Database "enter_alone" a.Database_enter_alone
  Database_enter_inside : Fun K "enter_inside" "Database.enter_inside" s_Database_enter_inside a.Database_enter_inside d.Database_enter_inside
  b_Database_enter_inside : Binds K d.Database_enter_inside ["self", "mode", "present"] []
  m_Database_enter_inside : Meth K a.Database "enter_inside" a.Database_enter_inside
  Database_enter : Fun K "enter" "Database.enter" s_Database_enter a.Database_enter d.Database_enter
  b_Database_enter : Binds K d.Database_enter ["self", "mode"] []
  m_Database_enter : Meth K a.Database "enter" a.Database_enter
  Database_doom : FunD K "doom" "Database.doom" (defArgs s_Database_doom) (defBody s_Database_doom) (defScope s_Database_doom) [.str "doom"] [] a.Database_doom d.Database_doom
  m_Database_doom : Meth K a.Database "doom" a.Database_doom
  Database_end_level : Fun K "end_level" "Database.end_level" s_Database_end_level a.Database_end_level d.Database_end_level
  b_Database_end_level : Binds K d.Database_end_level ["self", "error"] []
  m_Database_end_level : Meth K a.Database "end_level" a.Database_end_level
  Database_end_transaction : Fun K "end_transaction" "Database.end_transaction" s_Database_end_transaction a.Database_end_transaction d.Database_end_transaction
  b_Database_end_transaction : Binds K d.Database_end_transaction ["self", "error", "commits"] []
  m_Database_end_transaction : Meth K a.Database "end_transaction" a.Database_end_transaction
  Database_leave : FunD K "leave" "Database.leave" (defArgs s_Database_leave) (defBody s_Database_leave) (defScope s_Database_leave) [.non] [("commits", .bl true)] a.Database_leave d.Database_leave
  m_Database_leave : Meth K a.Database "leave" a.Database_leave
  Database_held_by : Fun K "held_by" "Database.held_by" s_Database_held_by a.Database_held_by d.Database_held_by
  b_Database_held_by : Binds K d.Database_held_by ["self", "numbers"] []
  m_Database_held_by : Meth K a.Database "held_by" a.Database_held_by
  Database_held_records : Fun K "held_records" "Database.held_records" s_Database_held_records a.Database_held_records d.Database_held_records
  b_Database_held_records : Binds K d.Database_held_records ["self"] []
  m_Database_held_records : Meth K a.Database "held_records" a.Database_held_records
  Database_outer_records : Fun K "outer_records" "Database.outer_records" s_Database_outer_records a.Database_outer_records d.Database_outer_records
  b_Database_outer_records : Binds K d.Database_outer_records ["self"] []
  m_Database_outer_records : Meth K a.Database "outer_records" a.Database_outer_records
  Database_would_wait : Fun K "would_wait" "Database.would_wait" s_Database_would_wait a.Database_would_wait d.Database_would_wait
  b_Database_would_wait : Binds K d.Database_would_wait ["self", "record"] []
  m_Database_would_wait : Meth K a.Database "would_wait" a.Database_would_wait
  Database_write : Fun K "write" "Database.write" s_Database_write a.Database_write d.Database_write
  b_Database_write : Binds K d.Database_write ["self", "record", "value"] []
  m_Database_write : Meth K a.Database "write" a.Database_write
  DatabaseU_setitemU : Fun K "__setitem__" "Database.__setitem__" s_DatabaseU_setitemU a.DatabaseU_setitemU d.DatabaseU_setitemU
  b_DatabaseU_setitemU : Binds K d.DatabaseU_setitemU ["self", "record", "value"] []
  m_DatabaseU_setitemU : Meth K a.Database "__setitem__" a.DatabaseU_setitemU
  ns_Database : PySem.W.noSeq K a.Database = true
  law_pool : Fun K "_law_pool" "_law_pool" s_law_pool a.law_pool d.law_pool
  b_law_pool : Binds K d.law_pool ["_law_script", "_law_at"] []
  g_law_pool : mg "_law_pool" = some (.ref a.law_pool)
  law_draw : Fun K "_law_draw" "_law_draw" s_law_draw a.law_draw d.law_draw
  b_law_draw : Binds K d.law_draw ["_law_pool_here", "_law_many"] []
  g_law_draw : mg "_law_draw" = some (.ref a.law_draw)
  law_word : Fun K "_law_word" "_law_word" s_law_word a.law_word d.law_word
  b_law_word : Binds K d.law_word ["_law_pool_here"] []
  g_law_word : mg "_law_word" = some (.ref a.law_word)
  law_records : Fun K "_law_records" "_law_records" s_law_records a.law_records d.law_records
  b_law_records : Binds K d.law_records ["_law_levels"] []
  g_law_records : mg "_law_records" = some (.ref a.law_records)
  law_outer : Fun K "_law_outer" "_law_outer" s_law_outer a.law_outer d.law_outer
  b_law_outer : Binds K d.law_outer ["_law_stack"] []
  g_law_outer : mg "_law_outer" = some (.ref a.law_outer)
  law_enter : Fun K "_law_enter" "_law_enter" s_law_enter a.law_enter d.law_enter
  b_law_enter : Binds K d.law_enter ["_law_db", "_law_stack", "_law_sorts", "_law_mode"] []
  g_law_enter : mg "_law_enter" = some (.ref a.law_enter)
  law_leave : Fun K "_law_leave" "_law_leave" s_law_leave a.law_leave d.law_leave
  b_law_leave : Binds K d.law_leave ["_law_db", "_law_stack", "_law_sorts", "_law_error", "_law_goes"] []
  g_law_leave : mg "_law_leave" = some (.ref a.law_leave)
  law_write : Fun K "_law_write" "_law_write" s_law_write a.law_write d.law_write
  b_law_write : Binds K d.law_write ["_law_db", "_law_stack", "_law_record", "_law_value"] []
  g_law_write : mg "_law_write" = some (.ref a.law_write)
  law_step : Fun K "_law_step" "_law_step" s_law_step a.law_step d.law_step
  b_law_step : Binds K d.law_step ["_law_pool_here", "_law_db", "_law_stack", "_law_sorts", "_law_words"] []
  g_law_step : mg "_law_step" = some (.ref a.law_step)
  law : Fun K "law" "law" s_law a.law d.law
  b_law : Binds K d.law ["_law_script"] []
  g_law : mg "law" = some (.ref a.law)
  n_isinstance : mg "isinstance" = none
  n_str : mg "str" = none
  n_len : mg "len" = none
  n_super : mg "super" = none
  n_sorted : mg "sorted" = none
  n_abs : mg "abs" = none
  n_int : mg "int" = none
  n_range : mg "range" = none
  n_set : mg "set" = none
  n_max : mg "max" = none
  n_min : mg "min" = none
  n_list : mg "list" = none

section
variable {w : World} {K : PySem.W.Frag} {mg : Str → Option Value} {base : Heap} {a : Ad} {d : Fd}
theorem ok_law_draw (T : Txt K mg a d) : FnOk P w K mg base CX0 1 a.law_draw d.law_draw ["_law_pool_here", "_law_many"] spDraw := by
  refine T.law_draw.ok sc_law_draw (fun vs H Q E h => ?_) (fun cdv A outer s H vs Q E hr h => ?_)
  · obtain ⟨p, m, c, o, rfl, _⟩ := h
    rfl
  · obtain ⟨p, m, c, o, rfl, hp, ⟨x, y, n, rfl, hx, hy, hy2, hn, hn2⟩, hm, hm2, hc, k⟩ := h
    have hw : ∀ i : Int, CDivW i m := fun i => wide_div (b := 200) hm (by omega) (by decide) (by decide)
    have e1 : (b2 : Int) → 0 ≤ b2 → b2 < 2 ^ 62 → CPow (b2 + 48611 * (n + 1)) 3 := fun b2 h1 h2 => ⟨by decide, by decide, by omega⟩
    have e2 : (b2 : Int) → 0 ≤ b2 → b2 < 2 ^ 62 → CPow (b2 + 104729 * (n + 1)) 3 := fun b2 h1 h2 => ⟨by decide, by decide, by omega⟩
    have e3 : ∀ i j : Int, -1000000 < i → i < 1000000 → CMul i j := fun i j h1 h2 => .inl ⟨by omega, by omega⟩
    refine ⟨_, (pss_cons (ps_if (pt_cmpR op_gt (pe_ix ix_list (pv 0) pe_int (fun _ _ => rfl)) pe_int (nomark _)) (pss_cons (ps_set (i := 2) sc_law_draw.nd rfl (Or.inl rfl) (pe_op op_mod (pe_callTy call_int1 (by rfl) T.n_int (by decide +kernel) (pa_cons (pe_ix ix_list (pv 0) pe_int (fun _ _ => rfl)) pa_nil)) (pv 1)))
  (pss_cons (ps_asg (pe_op op_fdivW (pe_ix ix_list (pv 0) pe_int (fun _ _ => rfl)) (pv 1)) (pg_sub (pv 0) pe_int set_list))
  (pss_one (ps_ret (pv 2))))) pss_nil)
  (pss_cons (ps_set (i := 3) sc_law_draw.nd rfl (Or.inl rfl) (pe_op op_add (pe_ix ix_list (pv 0) pe_int (fun _ _ => rfl)) pe_int))
  (pss_cons (ps_asg (pv 3) (pg_sub (pv 0) pe_int set_list))
  (pss_cons (ps_set (i := 4) sc_law_draw.nd rfl (Or.inl rfl) (pe_op op_mod (pe_callTy call_int1 (by rfl) T.n_int (by decide +kernel) (pa_cons (pe_op op_add (pe_op op_pow (pe_op op_add (pe_ix ix_list (pv 0) pe_int (fun _ _ => rfl)) (pe_op op_mul pe_int (pv 3))) pe_int) (pe_op op_mul pe_int (pv 3))) pa_nil)) pe_int))
  (pss_cons (ps_set (i := 4) sc_law_draw.nd rfl (Or.inl rfl) (pe_op op_mod (pe_callTy call_int1 (by rfl) T.n_int (by decide +kernel) (pa_cons (pe_op op_pow (pe_op op_add (pv 4) (pe_op op_mul pe_int (pv 3))) pe_int) pa_nil)) pe_int))
  (pss_one (ps_ret (pe_op op_mod (pe_callTy call_int1 (by rfl) T.n_int (by decide +kernel) (pa_cons (pe_op op_fdivW (pv 4) pe_int) pa_nil)) (pv 1))))))))), ?_⟩
    dsimp only [cxOf]
    walk_at "rd"
    refine ite2 (fun c0 => ?_) (fun c0 => ?_)
    · have c1 : 0 < x := of_decide_eq_true c0
      walk_at "rd"
      refine And.intro (hw _) ?_
      walk_at "rd"
      refine k _ _ (Int.emod_nonneg _ (by omega)) (Int.emod_lt_of_pos _ hm) ⟨_, _, _, rfl, Int.ediv_nonneg (by omega) (by omega), hy, hy2, hn, by omega⟩
    · walk_at "rd"
      refine And.intro (e1 _ hy hy2) ?_
      walk_at "rd"
      refine And.intro (e2 _ (Int.emod_nonneg _ (by decide)) (Int.lt_trans (Int.emod_lt_of_pos _ (by decide)) (by decide))) ?_
      walk_at "rd"
      refine k _ _ (Int.emod_nonneg _ (by omega)) (Int.emod_lt_of_pos _ hm) ⟨_, _, _, rfl, hx, hy, hy2, by omega, by omega⟩
theorem ok_law_pool (T : Txt K mg a d) : FnOk P w K mg base CX0 1 a.law_pool d.law_pool ["_law_script", "_law_at"] (spPool K) := by
  refine T.law_pool.ok sc_law_pool (fun vs H Q E h => ?_) (fun cdv A outer s H vs Q E hr h => ?_)
  · obtain ⟨p, ns, i, rfl, _⟩ := h
    rfl
  · obtain ⟨p, ns, i, rfl, hS, hi, k⟩ := h
    have e3 : ∀ i j : Int, -1000000 < i → i < 1000000 → CMul i j := fun i j h1 h2 => .inl ⟨by omega, by omega⟩
    have e4 : ∀ i j : Int, -1000000 < j → j < 1000000 → CMul i j := fun i j h1 h2 => .inr ⟨by omega, by omega⟩
    refine ⟨_, (pss_cons (ps_set (i := 2) sc_law_pool.nd rfl (Or.inl rfl) (pe_ifExp (pt_cmpR op_lt (pv 1) (pe_callB call_len_seq (by rfl) T.n_len PySem.boot_len (pa_cons (pv 0) pa_nil)) (nomark _)) (pe_ix ix_list (pv 0) (pv 1) (fun _ _ => rfl)) pe_int))
  (pss_cons (ps_set (i := 3) sc_law_pool.nd rfl (Or.inl rfl) (pe_callB call_abs (by rfl) T.n_abs (by decide +kernel) (pa_cons (pv 2) pa_nil)))
  (pss_cons (ps_set (i := 4) sc_law_pool.nd rfl (Or.inl rfl) (pe_op op_mod (pe_callTy call_int1 (by rfl) T.n_int (by decide +kernel) (pa_cons (pe_op op_add (pe_op op_add (pe_op op_mul (pv 3) pe_int) (pe_op op_mul pe_int (pv 1))) (pe_callTy call_int1 (by rfl) T.n_int (by decide +kernel) (pa_cons (pe_cmpR op_lt (pv 2) pe_int (nomark _)) pa_nil))) pa_nil)) pe_int))
  (pss_one (ps_ret (pe_lst (pa_cons (pe_ifExp (pt_cmpR op_ge (pv 3) (pe_op op_pow pe_int pe_int) (nomark _)) (pv 3) pe_int) (pa_cons (pe_op op_add (pv 4) pe_int) (pa_cons pe_int pa_nil))))))))), ?_⟩
    dsimp only [cxOf]
    walk_at "rd"
    refine ite2 (fun c0 => ?_) (fun c0 => ?_)
    · have c1 : (i : Int) < ((ns.map V.int).length : Int) := of_decide_eq_true c0
      rw [List.length_map] at c1
      have c2 : i < ns.length := by omega
      have hz : (ns.map V.int)[i]? = some (.int ns[i]) := by
        rw [List.getElem?_map, List.getElem?_eq_getElem c2]; rfl
      walk_at "rd"
      refine And.intro (atI_nat hz) ?_
      walk_at "rd"
      refine ite2 (fun c2 => ?_) (fun c2 => ?_)
      all_goals
        walk_at "rd"
        intro q hq
        exact k q _ hq ⟨_, _, _, rfl, (by first | (split <;> omega) | decide), Int.add_nonneg (Int.emod_nonneg _ (by decide)) (by decide), Int.lt_trans (Int.add_lt_add_right (Int.emod_lt_of_pos _ (by decide)) _) (by decide), Int.le_refl 0, Int.le_refl 0⟩
    · walk_at "rd"
      intro q hq
      exact k q _ hq ⟨_, _, _, rfl, Int.le_refl 0, Int.add_nonneg (Int.emod_nonneg _ (by decide)) (by decide), Int.lt_trans (Int.add_lt_add_right (Int.emod_lt_of_pos _ (by decide)) _) (by decide), Int.le_refl 0, Int.le_refl 0⟩
theorem ok_law_word (T : Txt K mg a d) : FnOk P w K mg base CX0 2 a.law_word d.law_word ["_law_pool_here"] spWord := by
  have G_law_draw : FnOk P w K mg base CX0 1 a.law_draw d.law_draw ["_law_pool_here", "_law_many"] spDraw := ok_law_draw T
  refine T.law_word.ok sc_law_word (fun vs H Q E h => ?_) (fun cdv A outer s H vs Q E hr h => ?_)
  · obtain ⟨p, c, o, rfl, _⟩ := h
    rfl
  · obtain ⟨p, c, o, rfl, hp, hc, hb, k⟩ := h
    refine ⟨_, (pss_cons (ps_set (i := 1) sc_law_word.nd rfl (Or.inr rfl) pe_str)
  (pss_one (ps_ret (pe_join pe_str (pe_lc (own := [("_law_k", 2)]) (tt := tYes) rfl sc_law_word.nd (pi_range1 (by rfl) T.n_range (pa_cons (pe_op op_add pe_int (pe_call G_law_draw (hr.mono (by decide)) (by rfl) T.g_law_draw T.law_draw.kp T.b_law_draw .nil pass0 (pa_cons (pv 0) (pa_cons pe_int pa_nil)))) pa_nil)) (blkOk_by (own := [("_law_k", 2)]) (N := ["_law_pool_here", "_law_letters", "_law_k"]) (sc := defScope s_law_word) (by decide +kernel)) (fun _ _ _ _ _ => (pg_name (i := 2) sc_law_word.nd rfl (Or.inl rfl))) (fun _ _ _ _ _ => pts_nil) (fun _ _ _ _ _ => (pe_ix ix_str (pv 1) (pe_call G_law_draw (hr.mono (by decide)) (by rfl) T.g_law_draw T.law_draw.kp T.b_law_draw .nil pass0 (pa_cons (pv 0) (pa_cons pe_int pa_nil))) (fun _ _ => rfl)))))))), ?_⟩
    dsimp only [cxOf]
    walk_at "rd"
    intro r o1 r0 r1 h1
    walk_at "rd"
    intro D hD
    refine lc_letters (c := c + 1) hD upd_same h1 (by omega) (by omega) rfl rfl (by decide) (by decide) fun H' cs o2 e1 e2 e3 e4 e5 e6 => ?_
    refine ⟨_, _, cs.map chr1, rfl, rfl, Or.inl (SqL.of e6), ?_, ?_⟩
    · rw [sum_chr, e1]
      have : (Str.ofString "").length = 0 := by decide +kernel
      rw [this]; omega
    · rw [join_chr]
      refine k _ o2 _ ⟨?_, ?_, e2⟩ (e5.mono (by omega)) e4 (Kp.refl.set1.trans e3)
      · show 1 ≤ cs.length
        omega
      · show cs.length ≤ 8
        omega
theorem ok_is_word (T : Txt K mg a d) : FnOk P w K mg base CX0 1 a.is_word d.is_word ["thing"] spIsWord := by
  refine T.is_word.ok sc_is_word (fun vs H Q E h => ?_) (fun cdv A outer s H vs Q E hr h => ?_)
  · obtain ⟨v, rfl, _⟩ := h
    rfl
  · obtain ⟨v, rfl, hv, k⟩ := h
    refine ⟨_, (pss_cons (ps_if (PW.pt (pw_or (pt_not (pt_val (pe_callB call_isi (by rfl) T.n_isinstance (by decide +kernel) (pa_cons (pv 0) (pa_cons (pe_bltn (v := .ty "str") (u := .type "str") (by rfl) T.n_str (by decide +kernel) rfl) pa_nil))))) (pw_or1 (pt_not (pt_chain op_le op_le pe_int (pe_callB call_len_str (by rfl) T.n_len PySem.boot_len (pa_cons (pv 0) pa_nil)) pe_int))))) (pss_one (ps_ret pe_bl)) pss_nil)
  (pss_cons (ps_for PassesOwn.never rfl (pi_str (pv 0)) (pg_name (i := 1) sc_is_word.nd rfl (Or.inl rfl))
  (pss_one (ps_if (pt_not (pt_chain op_le_str op_le_str pe_str (pv 1) pe_str)) (pss_one (ps_ret pe_bl)) pss_nil)))
  (pss_one (ps_ret pe_bl)))), ?_⟩
    dsimp only [cxOf]
    obtain ⟨ty, h1, h2⟩ := hv.isi (K := K)
    refine ⟨_, rfl, _, _, _, _, _, rfl, ClsV.ty _, h1, h2, _, rfl, ?_⟩
    cases hv with
    | str z hz ha0 =>
      refine iteF ?_
      have hs : z.length ≤ sizeLine := by rw [sizeLine_eq]; omega
      refine ⟨_, rfl, z, rfl, hs, ?_⟩
      walk_at "rd"
      by_cases c1 : (1 : Int) ≤ (z.length : Int)
      · rw [decide_eq_true c1]
        refine iteT ?_
        walk_at "rd"
        by_cases c2 : (z.length : Int) ≤ 8
        · rw [decide_eq_true c2]
          refine iteF ?_
          walk_at "rd"
          refine for_it (walk_str (z := z)) (fun i σ H' => H' = H ∧ ∃ v, σ = [some (.str z), v] ∧ (z.cps.toList.take i).all okC = true) ?_ (fun _ _ _ _ _ => trivial) ?_ ?_
          · exact ⟨rfl, none, rfl, rfl⟩
          · rintro i x σ H1 H2 hi ⟨rfl, v, rfl, ha⟩ ⟨rfl, c, hc, rfl⟩
            have hc' : z.cps.toList[i]? = some c := by rw [Array.getElem?_toList]; exact hc
            walk_at "rd"
            rw [le_a]
            by_cases d1 : 97 ≤ c
            · rw [decide_eq_true d1]
              refine iteT ?_
              walk_at "rd"
              rw [le_z]
              by_cases d2 : c ≤ 122
              · rw [decide_eq_true d2]
                refine iteF ?_
                refine ⟨rfl, _, rfl, all_take hc' ha ?_⟩
                unfold okC; rw [decide_eq_true d1, decide_eq_true d2]; rfl
              · rw [decide_eq_false d2]
                refine iteT ?_
                have : wordB (.str z) = false := by
                  show wordS z = false
                  unfold wordS; rw [all_no hc' (show okC c = false by unfold okC; rw [decide_eq_false d2, Bool.and_false]), Bool.and_false]
                rw [this] at k
                exact k
            · rw [decide_eq_false d1]
              refine iteF ?_
              walk_at "rd"
              refine iteT ?_
              have : wordB (.str z) = false := by
                show wordS z = false
                unfold wordS; rw [all_no hc' (show okC c = false by unfold okC; rw [decide_eq_false d1, Bool.false_and]), Bool.and_false]
              rw [this] at k
              exact k
          · rintro σ H1 ⟨rfl, v, rfl, ha⟩
            have e : (z.cps.toList.take z.cps.size) = z.cps.toList := List.take_of_length_le (by simp)
            rw [e] at ha
            have : wordB (.str z) = true := by
              show wordS z = true
              unfold wordS; rw [ha, decide_eq_true (show 1 ≤ z.length by omega), decide_eq_true (show z.length ≤ 8 by omega)]; rfl
            rw [this] at k
            exact k
        · rw [decide_eq_false c2]
          refine iteT ?_
          have : wordB (.str z) = false := by
            show wordS z = false
            unfold wordS; rw [decide_eq_false (show ¬ z.length ≤ 8 by omega), Bool.and_false, Bool.false_and]
          rw [this] at k
          exact k
      · rw [decide_eq_false c1]
        refine iteF ?_
        walk_at "rd"
        refine iteT ?_
        have : wordB (.str z) = false := by
          show wordS z = false
          unfold wordS; rw [decide_eq_false (show ¬ 1 ≤ z.length by omega), Bool.false_and, Bool.false_and]
        rw [this] at k
        exact k
    | int i => exact iteT (iteT k)
    | bl b => exact iteT (iteT k)
    | non => exact iteT (iteT k)
    | lst h => exact iteT (iteT k)
    | tup h => exact iteT (iteT k)
/-! ### modes -/
abbrev modesS : List Str := ["join", "inner", "apart", "must", "either", "never", "outside", "alone"]
abbrev modesV : List V := [.str "join", .str "inner", .str "apart", .str "must", .str "either", .str "never", .str "outside", .str "alone"]
def modeB (v : V) : Bool := strB v && inV v modesV
theorem strB_flat {v : V} (h : strB v = true) : flatV v = true := by
  cases v <;> first | rfl | cases h
def spIsMode : Sp := fun vs H Q _ => ∃ v, vs = [v] ∧ Thing H v ∧ Q (.bl (modeB v)) H
theorem ok_Mode_is_mode (T : Txt K mg a d) : FnOk P w K mg base CX0 1 a.Mode_is_mode d.Mode_is_mode ["thing"] spIsMode := by
  refine T.Mode_is_mode.ok sc_Mode_is_mode (fun vs H Q E h => ?_) (fun cdv A outer s H vs Q E hr h => ?_)
  · obtain ⟨v, rfl, _⟩ := h
    rfl
  · obtain ⟨v, rfl, hv, k⟩ := h
    refine ⟨_, (pss_one (ps_ret (pe_and (pe_callB call_isi (by rfl) T.n_isinstance (by decide +kernel) (pa_cons (pv 0) (pa_cons (pe_bltn (v := .ty "str") (u := .type "str") (by rfl) T.n_str (by decide +kernel) rfl) pa_nil))) (pe_one (pe_cmpR op_in_seq (pv 0) (ClX.pe_cval (pe_glob (v := .ref a.Mode) (by rfl) T.g_Mode rfl)) (by rfl)))))), ?_⟩
    dsimp only [cxOf]
    obtain ⟨ty, h1, h2⟩ := hv.isi (K := K)
    refine ⟨_, rfl, _, _, _, _, _, rfl, ClsV.ty _, h1, h2, _, rfl, ?_⟩
    obtain ⟨u, hu⟩ := T.c_Mode_ALL
    unfold modeB at k
    cases hb : strB v with
    | true =>
      rw [hb] at k
      refine iteT ⟨_, rfl, _, _, _, _, rfl, T.r_Mode, hu, _, _, rfl, .inr (T.q_Mode_ALL H), strB_flat hb, rfl, k⟩
    | false =>
      rw [hb] at k
      exact iteF k
theorem mode_thing {H : Hp} {m : Str} (h : m ∈ modesS) : Thing H (.str m) := by
  refine .str m ?_ ?_
  · have : modesS.all (fun m => decide (m.length ≤ 1000)) = true := by decide +kernel
    exact of_decide_eq_true (List.all_eq_true.mp this m h)
  · intro c hc
    have : modesS.all (fun m => m.cps.toList.all fun c => decide (c < 128)) = true := by decide +kernel
    exact of_decide_eq_true (List.all_eq_true.mp (List.all_eq_true.mp this m h) c hc)
theorem mode_isB {m : Str} (h : m ∈ modesS) : modeB (.str m) = true := by
  have : modesS.all (fun m => modeB (.str m)) = true := by decide +kernel
  exact List.all_eq_true.mp this m h
/-! ### Transaction(n), Database() -/
abbrev DB (a : Ad) := DbAt a.Database a.Transaction a.Write
def spTxI (a : Ad) : Sp := fun vs H Q _ => ∃ (x dx : Addr) (n : Int), vs = [.ref x, .int n] ∧ H x = some (.ins a.Transaction dx []) ∧ ∀ q, H q = none → q ≠ x → Q .non (upd (upd (upd H x (.ins a.Transaction dx [("number", .int n)])) q (.lst [.non])) x (.ins a.Transaction dx (txF n q)))
theorem ok_TransactionU_initU (T : Txt K mg a d) : FnOk P w K mg base CX0 1 a.TransactionU_initU d.TransactionU_initU ["self", "number"] (spTxI a) := by
  refine T.TransactionU_initU.ok sc_TransactionU_initU (fun vs H Q E h => ?_) (fun cdv A outer s H vs Q E hr h => ?_)
  · obtain ⟨x, dx, n, rfl, _⟩ := h
    rfl
  · obtain ⟨x, dx, n, rfl, hx, k⟩ := h
    have c1 := T.k_Transaction
    have n1 := T.na_Transaction_number
    have n2 := T.na_Transaction_reasons
    refine ⟨_, (pss_cons (ps_fld (pv 0) (pv 1) rfl)
  (pss_one (ps_fld (pv 0) (pe_lst (pa_cons pe_non pa_nil)) rfl))), ?_⟩
    dsimp only [cxOf]
    walk_at "rd"
    intro q hq
    have hqx : q ≠ x := fun e => by rw [e, upd_same] at hq; cases hq
    rw [upd_ne hqx] at hq
    have h1 : (upd (upd H x (.ins a.Transaction dx [("number", .int n)])) q (.lst [.non])) x = some (.ins a.Transaction dx [("number", .int n)]) := upd_oth (Ne.symm hqx) upd_same
    walk_at "rd"
    exact k q hq hqx
def spDbI (a : Ad) : Sp := fun vs H Q _ => ∃ (x dx : Addr), vs = [.ref x] ∧ H x = some (.ins a.Database dx []) ∧
  ∀ H' L, DB a H' L ⟨[], [none], [], 0, 0⟩ → L.db = x → Kp (fun b => b = x) H H' → (∀ b, Mut L b → b = x ∨ H b = none) → Q .non H'
theorem ok_DatabaseU_initU (T : Txt K mg a d) : FnOk P w K mg base CX0 1 a.DatabaseU_initU d.DatabaseU_initU ["self"] (spDbI a) := by
  refine T.DatabaseU_initU.ok sc_DatabaseU_initU (fun vs H Q E h => ?_) (fun cdv A outer s H vs Q E hr h => ?_)
  · obtain ⟨x, dx, rfl, _⟩ := h
    rfl
  · obtain ⟨x, dx, rfl, hx, k⟩ := h
    have c1 := T.k_Database
    have n1 := T.na_Database_rows
    have n2 := T.na_Database_stack
    have n3 := T.na_Database_entered
    have n4 := T.na_Database_floor
    have n5 := T.na_Database_opened
    refine ⟨_, (pss_cons (ps_fld (pv 0) (pe_lst pa_nil) rfl)
  (pss_cons (ps_fld (pv 0) (pe_lst (pa_cons pe_non pa_nil)) rfl)
  (pss_cons (ps_fld (pv 0) (pe_lst pa_nil) rfl)
  (pss_cons (ps_fld (pv 0) pe_int rfl)
  (pss_one (ps_fld (pv 0) pe_int rfl)))))), ?_⟩
    dsimp only [cxOf]
    walk_at "rd"
    intro r hr0
    have nxr := ne_of_none hx hr0
    walk_at "rd"
    intro s1 hs
    obtain ⟨nsx, hs1⟩ := none_upd hs
    obtain ⟨nsr, hs2⟩ := none_upd hs1
    walk_at "rd"
    intro e1 he
    obtain ⟨nex, he1⟩ := none_upd he
    obtain ⟨nes, he2⟩ := none_upd he1
    obtain ⟨nex, he3⟩ := none_upd he2
    obtain ⟨ner, he4⟩ := none_upd he3
    walk_at "rd"
    refine k _ ⟨x, dx, r, s1, e1, [], [none]⟩ ⟨upd_same, ?_, ?_, ?_, .nil, .cons trivial .nil, Ne.symm nsr, Ne.symm ner, Ne.symm nes, (fun t m => by simp at m), by simp, by simp, by simp⟩ rfl ?_ ?_
    · show (_ : Hp) r = some (.lst [])
      walk_at "hp"
    · show (_ : Hp) s1 = some (.lst [.non])
      walk_at "hp"
    · show (_ : Hp) e1 = some (.lst [])
      walk_at "hp"
    · walk_at "kp"
    · intro b hb
      rcases hb with rfl | rfl | rfl | rfl | ⟨t, m, rfl⟩ | ⟨w, m, rfl⟩
      · exact .inl rfl
      · exact .inr hr0
      · exact .inr hs2
      · exact .inr he4
      · simp at m
      · simp at m
/-! ### the database's methods -/
structure Sm (D : Db) : Prop where
  e : D.entered.length ≤ 100000
  s : D.stack.length ≤ 100000
  r : ∀ x, some x ∈ D.stack → x.rs.length ≤ 100000
  n : D.rows.length ≤ 4000
inductive EK
  | missing (m : Str)
  | present (m : Str)
  | doomed (z : Str)
  | refused
  | noblock
  | waits (z : Str)
  | norecord (z : Str)
  | badword (v : V)
  | badmode (v : V)
def errE (a : Ad) (e : EK) (H : Hp) (E : XK) : Prop := match e with
  | .missing m => errQ a.Missing ef_Missing [.str m] H E
  | .present m => errQ a.Present ef_Present [.str m] H E
  | .doomed z => errQ a.Doomed ef_Doomed [.str z] H E
  | .refused => errQ a.Refused ef_Refused [] H E
  | .noblock => errQ a.NoBlock ef_NoBlock [] H E
  | .waits z => errQ a.Waits ef_Waits [.str z] H E
  | .norecord z => errQ a.NoRecord ef_NoRecord [.str z] H E
  | .badword v => errQ a.BadWord ef_BadWord [v] H E
  | .badmode v => errQ a.BadMode ef_BadMode [v] H E
/-- what a method leaves: the state, and an error or None -/
def outE (a : Ad) (r : Db × Option EK) (H : Hp) (L : Lay) (Q : VK) (E : XK) : Prop := ∀ H' L', DB a H' L' r.1 → Fr H H' L L' → match r.2 with
  | none => Q .non H'
  | some e => errE a e H' E
theorem outE.fr {a : Ad} {r : Db × Option EK} {H H1 : Hp} {L L1 : Lay} {Q : VK} {E : XK} (k : outE a r H L Q E) (f : Fr H H1 L L1) : outE a r H1 L1 Q E := fun H' L' d f' => k H' L' d (f.trans f')
def plainD (D : Db) (z : Str) : Db := { D with entered := z :: D.entered }
theorem outE.putE {a : Ad} {H : Hp} {L : Lay} {D : Db} {z : Str} {Q : VK} {E : XK} (hD : DB a H L D) (k : outE a (plainD D z, none) H L Q E) : Q .non (upd H L.e (.lst (rv V.str D.entered ++ [.str z]))) := by
  have := k _ _ (hD.setE (z :: D.entered)) (Fr.set DbAt.mutE)
  rw [rv_cons] at this
  exact this
def beginD (D : Db) : Db := { D with stack := some ⟨D.opened, [none]⟩ :: D.stack, opened := D.opened + 1, entered := "base" :: D.entered }
def spBegin (a : Ad) : Sp := fun vs H Q E => ∃ L D, vs = [.ref L.db] ∧ DB a H L D ∧ Sm D ∧ outE a (beginD D, none) H L Q E
theorem ts_len {a : Ad} {H : Hp} {L : Lay} {D : Db} (h : DB a H L D) (m : Sm D) : (rv tV L.ts).length < sizeLine := by
  rw [rv_len, h.txs.len, sizeLine_eq]
  have := m.s
  omega
theorem es_len {D : Db} (m : Sm D) : (rv V.str D.entered).length < sizeLine := by
  rw [rv_len, sizeLine_eq]
  have := m.e
  omega
theorem ok_Database_begin (T : Txt K mg a d) : FnOk P w K mg base CX0 3 a.Database_begin d.Database_begin ["self"] (spBegin a) := by
  have G_TransactionU_initU : FnOk P w K mg base CX0 1 a.TransactionU_initU d.TransactionU_initU ["self", "number"] (spTxI a) := ok_TransactionU_initU T
  refine T.Database_begin.ok sc_Database_begin (fun vs H Q E h => ?_) (fun cdv A outer s H vs Q E hr h => ?_)
  · obtain ⟨L, D, rfl, _⟩ := h
    rfl
  · obtain ⟨L, D, rfl, hD, hm, k⟩ := h
    have c1 := T.k_Database
    have n1 := T.na_Database_stack
    have n2 := T.na_Database_entered
    have n3 := T.na_Database_opened
    have h1 := hD.db
    have h2 := hD.s
    have h3 := hD.e
    have l1 := ts_len hD hm
    have l2 := es_len hm
    refine ⟨_, (pss_cons (ps_expr (pe_bm PySem.F.plainAttrs_list PySem.F.slot_list_append PySem.F.type_list_append mt_append (pe_fld (pv 0) rfl) (pa_cons (pe_make T.mk_Transaction G_TransactionU_initU (hr.mono (by decide)) (by rfl) T.g_Transaction T.b_TransactionU_initU .nil pass0 (pa_cons (pe_fld (pv 0) rfl) pa_nil)) pa_nil)))
  (pss_cons (ps_fldaug (pv 0) pe_int in_add)
  (pss_one (ps_expr (pe_bm PySem.F.plainAttrs_list PySem.F.slot_list_append PySem.F.type_list_append mt_append (pe_fld (pv 0) rfl) (pa_cons pe_str pa_nil)))))), ?_⟩
    dsimp only [cxOf]
    walk_at "rd"
    intro x dx hx hdx nxd
    refine ⟨x, dx, D.opened, rfl, upd_same, fun q hq nq => ⟨rfl, ?_⟩⟩
    obtain ⟨_, hq1⟩ := none_upd hq
    obtain ⟨nqd, hq2⟩ := none_upd hq1
    generalize hH1 : upd (upd (upd (upd (upd H dx (HO.own x)) x (HO.ins a.Transaction dx [])) x (HO.ins a.Transaction dx [("number", V.int D.opened)])) q (HO.lst [V.non])) x (HO.ins a.Transaction dx (txF D.opened q)) = H1
    have k1 : Same H H1 := fun b u e => by
      rw [← hH1]
      exact upd_oth (ne_of_none e hx) (upd_oth (ne_of_none e hq2) (upd_oth (ne_of_none e hx) (upd_oth (ne_of_none e hx) (upd_oth (ne_of_none e hdx) e))))
    have hx1 : H1 x = some (.ins a.Transaction dx (txF D.opened q)) := by rw [← hH1]; exact upd_same
    have hq3 : H1 q = some (.lst (rv oV [none])) := by rw [← hH1]; exact upd_oth nq upd_same
    have hD1 : DB a H1 L D := hD.keep fun b u _ e => k1 b u e
    have hD2 := hD1.pushT (t := ⟨x, dx, q⟩) hx1 hq3 (by simp) (hD.fresh hq2 )
    have f2 : Fr H _ L _ := Fr.pushT (t := ⟨x, dx, q⟩) (o := .lst (rv tV (some ⟨x, dx, q⟩ :: L.ts))) (.of_same k1) hq2
    rw [← show rv tV L.ts ++ [V.ref x] = rv tV (some ⟨x, dx, q⟩ :: L.ts) from (rv_cons (f := tV) (x := some ⟨x, dx, q⟩)).symm] at hD2 f2
    have g1 := hD1.s
    have g2 : upd H1 L.s (HO.lst (rv tV L.ts ++ [V.ref x])) L.db = some (.ins a.Database L.dx (dbF L.r L.s L.e D.floor D.opened)) := hD2.db
    have g3 : upd H1 L.s (HO.lst (rv tV L.ts ++ [V.ref x])) L.e = some (.lst (rv V.str D.entered)) := hD2.e
    have g4 : L.e ≠ L.db := Ne.symm (ins_ne h1 h3)
    walk_at "rd"
    have hD4 := (hD2.setD D.floor (D.opened + 1)).setE ("base" :: D.entered)
    have f4 := (f2.trans (Fr.set (o := .ins a.Database L.dx (dbF L.r L.s L.e D.floor (D.opened + 1))) DbAt.mutD)).trans (Fr.set (o := .lst (rv V.str ("base" :: D.entered))) DbAt.mutE)
    rw [rv_cons] at hD4 f4
    exact k _ _ hD4 f4
/-! ### enter -/
def aloneD (D : Db) (m : Str) : Db × Option EK :=
  if decide (V.str m = V.str "must") = true then (D, some (.missing m)) else if inV (.str m) [.str "either", .str "never", .str "outside"] = true then (plainD D "plain", none) else (beginD D, none)
def spAlone (a : Ad) : Sp := fun vs H Q E => ∃ L D m, vs = [.ref L.db, .str m] ∧ DB a H L D ∧ Sm D ∧ outE a (aloneD D m) H L Q E
theorem ok_Database_enter_alone (T : Txt K mg a d) : FnOk P w K mg base (L2.CX P w) 4 a.Database_enter_alone d.Database_enter_alone ["self", "mode"] (spAlone a) := by
  have G_Database_begin : FnOk P w K mg base CX0 3 a.Database_begin d.Database_begin ["self"] (spBegin a) := ok_Database_begin T
  refine T.Database_enter_alone.okX sc_Database_enter_alone (fun vs H Q E h => ?_) (fun cdv A outer s H vs Q E hr h => ?_)
  · obtain ⟨L, D, m, rfl, _⟩ := h
    rfl
  · obtain ⟨L, D, m, rfl, hD, hm, k⟩ := h
    have c1 := T.k_Database
    have n2 := T.na_Database_entered
    have h1 := hD.db
    have h3 := hD.e
    have l2 := es_len hm
    obtain ⟨u1, k1⟩ := T.c_Mode_MUST
    obtain ⟨u2, k2⟩ := T.c_Mode_EITHER
    obtain ⟨u3, k3⟩ := T.c_Mode_NEVER
    obtain ⟨u4, k4⟩ := T.c_Mode_OUTSIDE
    have r1 := T.r_Mode
    refine ⟨_, (pss_cons (ps_if (pt_cmpR op_eq (pv 1) (ClX.pe_cval (pe_glob (v := .ref a.Mode) (by rfl) T.g_Mode rfl)) (nomark _)) (pss_one (ps_raise rfl (takes_of rfl rfl rfl rfl) (pmk_err T.e_Missing T.g_Missing T.n_super hr (pa_cons (pv 1) pa_nil)))) pss_nil)
  (pss_one (ps_if (pt_cmpR op_in_seq (pv 1) (pe_tup (pa_cons (ClX.pe_cval (pe_glob (v := .ref a.Mode) (by rfl) T.g_Mode rfl)) (pa_cons (ClX.pe_cval (pe_glob (v := .ref a.Mode) (by rfl) T.g_Mode rfl)) (pa_cons (ClX.pe_cval (pe_glob (v := .ref a.Mode) (by rfl) T.g_Mode rfl)) pa_nil)))) (by rfl)) (pss_one (ps_expr (pe_bm PySem.F.plainAttrs_list PySem.F.slot_list_append PySem.F.type_list_append mt_append (pe_fld (pv 0) rfl) (pa_cons pe_str pa_nil)))) (pss_one (ps_expr (pe_meth0 (pv 0) T.k_Database T.m_Database_begin G_Database_begin (hr.mono (by decide)) T.b_Database_begin .nil pass0)))))), ?_⟩
    dsimp only [cxOf]
    walk_at "rd"
    unfold aloneD at k
    refine ite2 (fun c0 => ?_) (fun c0 => ?_)
    · rw [if_pos c0] at k
      walk_at "rd"
      exact k H L hD Fr.refl
    · rw [if_neg c0] at k
      walk_at "rd"
      intro p hp
      have hD1 : DB a _ L D := hD.new (o := .tup [.str "either", .str "never", .str "outside"]) hp
      have f1 : Fr H _ L L := Fr.refl.new (o := .tup [.str "either", .str "never", .str "outside"]) hp
      have h1 := hD1.db
      have h3 := hD1.e
      have hp1 := upd_same (H := H) (a := p) (o := .tup [.str "either", .str "never", .str "outside"])
      generalize upd H p (.tup [.str "either", .str "never", .str "outside"]) = H1 at hD1 f1 h1 h3 hp1 ⊢
      walk_at "rd"
      refine ite2 (fun c1 => ?_) (fun c1 => ?_)
      · rw [if_pos (show inV (V.str m) [V.str "either", V.str "never", V.str "outside"] = true from c1)] at k
        walk_at "rd"
        exact (k.fr f1).putE hD1
      · rw [if_neg (show ¬ inV (V.str m) [V.str "either", V.str "never", V.str "outside"] = true from c1)] at k
        walk_at "rd"
        exact ⟨L, D, rfl, hD1, hm, k.fr f1⟩
def lvlD (D : Db) (m : Str) (n : Int) (y : Option Str) (rs : List (Option Str)) (st : List (Option Tx)) : Db × Option EK :=
  if inV (.str m) [.str "never", .str "alone"] = true then (D, some (.present m)) else
  if decide (V.str m = V.str "inner") = true then (match y with
    | some z => (D, some (.doomed z))
    | none => (plainD { D with stack := some ⟨n, none :: y :: rs⟩ :: st } "level", none)) else
  if decide (V.str m = V.str "apart") = true then (beginD D, none) else
  if decide (V.str m = V.str "outside") = true then (plainD { D with stack := none :: D.stack } "outside", none) else (plainD D "joined", none)
def spInside (a : Ad) : Sp := fun vs H Q E => ∃ L D m t ts n y rs st, vs = [.ref L.db, .str m, .ref t.t] ∧ DB a H L D ∧ Sm D ∧ L.ts = some t :: ts ∧ D.stack = some ⟨n, y :: rs⟩ :: st ∧ outE a (lvlD D m n y rs st) H L Q E
theorem ok_Database_enter_inside (T : Txt K mg a d) : FnOk P w K mg base (L2.CX P w) 4 a.Database_enter_inside d.Database_enter_inside ["self", "mode", "present"] (spInside a) := by
  have G_Database_begin : FnOk P w K mg base CX0 3 a.Database_begin d.Database_begin ["self"] (spBegin a) := ok_Database_begin T
  refine T.Database_enter_inside.okX sc_Database_enter_inside (fun vs H Q E h => ?_) (fun cdv A outer s H vs Q E hr h => ?_)
  · obtain ⟨L, D, m, t, ts, n, y, rs, st, rfl, _⟩ := h
    rfl
  · obtain ⟨L, D, m, t, ts, n, y, rs, st, rfl, hD0, hm, et, es, k⟩ := h
    have c1 := T.k_Database
    have c2 := T.k_Transaction
    have n1 := T.na_Database_stack
    have n2 := T.na_Database_entered
    have n3 := T.na_Transaction_reasons
    obtain ⟨u1, k1⟩ := T.c_Mode_NEVER
    obtain ⟨u2, k2⟩ := T.c_Mode_ALONE
    obtain ⟨u3, k3⟩ := T.c_Mode_INNER
    obtain ⟨u4, k4⟩ := T.c_Mode_APART
    obtain ⟨u5, k5⟩ := T.c_Mode_OUTSIDE
    have r1 := T.r_Mode
    refine ⟨_, (pss_cons (ps_if (pt_cmpR op_in_seq (pv 1) (pe_tup (pa_cons (ClX.pe_cval (pe_glob (v := .ref a.Mode) (by rfl) T.g_Mode rfl)) (pa_cons (ClX.pe_cval (pe_glob (v := .ref a.Mode) (by rfl) T.g_Mode rfl)) pa_nil))) (by rfl)) (pss_one (ps_raise rfl (takes_of rfl rfl rfl rfl) (pmk_err T.e_Present T.g_Present T.n_super hr (pa_cons (pv 1) pa_nil)))) pss_nil)
  (pss_one (ps_if (pt_cmpR op_eq (pv 1) (ClX.pe_cval (pe_glob (v := .ref a.Mode) (by rfl) T.g_Mode rfl)) (nomark _)) (pss_cons (ps_if (pt_cmpR op_notN (pe_ix ix_list (pe_fld (pv 2) rfl) (pe_un un_neg pe_int) (fun _ _ => rfl)) pe_non (nomark _)) (pss_one (ps_raise rfl (takes_of rfl rfl rfl rfl) (pmk_err T.e_Doomed T.g_Doomed T.n_super hr (pa_cons (pe_ix ix_list (pe_fld (pv 2) rfl) (pe_un un_neg pe_int) (fun _ _ => rfl)) pa_nil)))) pss_nil)
  (pss_cons (ps_expr (pe_bm PySem.F.plainAttrs_list PySem.F.slot_list_append PySem.F.type_list_append mt_append (pe_fld (pv 2) rfl) (pa_cons pe_non pa_nil)))
  (pss_one (ps_expr (pe_bm PySem.F.plainAttrs_list PySem.F.slot_list_append PySem.F.type_list_append mt_append (pe_fld (pv 0) rfl) (pa_cons pe_str pa_nil)))))) (pss_one (ps_if (pt_cmpR op_eq (pv 1) (ClX.pe_cval (pe_glob (v := .ref a.Mode) (by rfl) T.g_Mode rfl)) (nomark _)) (pss_one (ps_expr (pe_meth0 (pv 0) T.k_Database T.m_Database_begin G_Database_begin (hr.mono (by decide)) T.b_Database_begin .nil pass0))) (pss_one (ps_if (pt_cmpR op_eq (pv 1) (ClX.pe_cval (pe_glob (v := .ref a.Mode) (by rfl) T.g_Mode rfl)) (nomark _)) (pss_cons (ps_expr (pe_bm PySem.F.plainAttrs_list PySem.F.slot_list_append PySem.F.type_list_append mt_append (pe_fld (pv 0) rfl) (pa_cons pe_non pa_nil)))
  (pss_one (ps_expr (pe_bm PySem.F.plainAttrs_list PySem.F.slot_list_append PySem.F.type_list_append mt_append (pe_fld (pv 0) rfl) (pa_cons pe_str pa_nil))))) (pss_one (ps_expr (pe_bm PySem.F.plainAttrs_list PySem.F.slot_list_append PySem.F.type_list_append mt_append (pe_fld (pv 0) rfl) (pa_cons pe_str pa_nil))))))))))), ?_⟩
    dsimp only [cxOf]
    walk_at "rd"
    intro p hp
    have hD : DB a _ L D := hD0.new (o := .tup [.str "never", .str "alone"]) hp
    have f1 : Fr H _ L L := Fr.refl.new (o := .tup [.str "never", .str "alone"]) hp
    have hp1 := upd_same (H := H) (a := p) (o := .tup [.str "never", .str "alone"])
    generalize upd H p (.tup [.str "never", .str "alone"]) = H1 at hD f1 hp1 ⊢
    replace k := k.fr f1
    have mt : some t ∈ L.ts := by rw [et]; exact List.mem_cons_self
    have h1 := hD.db
    have h2 := hD.s
    have h3 := hD.e
    have hx := hD.txs
    rw [et, es] at hx
    obtain ⟨h4, h5, h6⟩ : TxAt a.Transaction H1 (some t) (some ⟨n, y :: rs⟩) := by cases hx; assumption
    have e1 := rv_at (f := oV) (x := y) (l := rs)
    have l2 := es_len hm
    have l1 := ts_len hD hm
    unfold lvlD at k
    walk_at "rd"
    refine ite2 (fun b1 => ?_) (fun b1 => ?_)
    · rw [if_pos (show inV (V.str m) [V.str "never", V.str "alone"] = true from b1)] at k
      walk_at "rd"
      exact k H1 L hD Fr.refl
    rw [if_neg (show ¬ inV (V.str m) [V.str "never", V.str "alone"] = true from b1)] at k
    walk_at "rd"
    refine ite2 (fun b2 => ?_) (fun b2 => ?_)
    · rw [if_pos b2] at k
      have hd : ∀ z, H1 t.q ≠ some (.ins a.Database L.dx z) := fun z e => by rw [h5] at e; cases e
      walk_at "rd"
      cases y with
      | some z =>
        refine iteT ?_
        walk_at "rd"
        exact k H1 L hD Fr.refl
      | none =>
        refine iteF ?_
        have hD2 := hD.setQ (rs := none :: none :: rs) et es (by simp)
        have f2 := Fr.set (H := H1) (o := .lst (rv oV (none :: none :: rs))) (DbAt.mutQ mt)
        rw [show rv oV (none :: none :: rs) = rv oV (none :: rs) ++ [V.non] from rv_cons] at hD2 f2
        have g1 := hD2.db
        have g2 := hD2.e
        dsimp only at g1 g2
        have l3 : (rv oV (none :: rs)).length < sizeLine := by
          rw [rv_len, sizeLine_eq]
          have := hm.r ⟨n, none :: rs⟩ (by rw [es]; exact List.mem_cons_self)
          dsimp only at this
          omega
        walk_at "rd"
        have z := outE.putE hD2 (k.fr f2)
        exact z
    rw [if_neg b2] at k
    walk_at "rd"
    refine ite2 (fun b3 => ?_) (fun b3 => ?_)
    · rw [if_pos b3] at k
      walk_at "rd"
      exact ⟨L, D, rfl, hD, hm, k⟩
    rw [if_neg b3] at k
    walk_at "rd"
    refine ite2 (fun b4 => ?_) (fun b4 => ?_)
    · rw [if_pos b4] at k
      have hD2 := hD.pushN
      have f2 := Fr.pushN (H := H1) (L := L) (o := .lst (rv tV (none :: L.ts)))
      rw [show rv tV (none :: L.ts) = rv tV L.ts ++ [V.non] from rv_cons] at hD2 f2
      have g1 := hD2.db
      have g2 := hD2.e
      dsimp only at g1 g2
      walk_at "rd"
      have z := outE.putE hD2 (k.fr f2)
      exact z
    rw [if_neg b4] at k
    walk_at "rd"
    exact k.putE hD
def enterD (D : Db) (m : Str) : Db × Option EK := match D.stack with
  | none :: _ => aloneD D m
  | some ⟨n, y :: rs⟩ :: st => lvlD D m n y rs st
  | _ => (D, none)
def enterV (D : Db) (v : V) : Db × Option EK := if modeB v = true then (match v with
  | .str m => enterD D m
  | _ => (D, none)) else (D, some (.badmode v))
def spEnter (a : Ad) : Sp := fun vs H Q E => ∃ L D v, vs = [.ref L.db, v] ∧ Thing H v ∧ DB a H L D ∧ Sm D ∧ outE a (enterV D v) H L Q E
theorem ok_Database_enter (T : Txt K mg a d) : FnOk P w K mg base (L2.CX P w) 5 a.Database_enter d.Database_enter ["self", "mode"] (spEnter a) := by
  have G_Mode_is_mode : FnOk P w K mg base CX0 1 a.Mode_is_mode d.Mode_is_mode ["thing"] spIsMode := ok_Mode_is_mode T
  have G_Database_enter_alone : FnOk P w K mg base (L2.CX P w) 4 a.Database_enter_alone d.Database_enter_alone ["self", "mode"] (spAlone a) := ok_Database_enter_alone T
  have G_Database_enter_inside : FnOk P w K mg base (L2.CX P w) 4 a.Database_enter_inside d.Database_enter_inside ["self", "mode", "present"] (spInside a) := ok_Database_enter_inside T
  refine T.Database_enter.okX sc_Database_enter (fun vs H Q E h => ?_) (fun cdv A outer s H vs Q E hr h => ?_)
  · obtain ⟨L, D, v, rfl, _⟩ := h
    rfl
  · obtain ⟨L, D, v, rfl, tm, hD, hm, k⟩ := h
    have c1 := T.k_Database
    have n1 := T.na_Database_stack
    have h1 := hD.db
    have h2 := hD.s
    refine ⟨_, (pss_cons (ps_if (pt_not (pt_val (pe_smeth (pe_glob (v := .ref a.Mode) (by rfl) T.g_Mode rfl) T.r_Mode T.s_Mode_is_mode G_Mode_is_mode (hr.mono (by decide)) T.Mode_is_mode.kp T.b_Mode_is_mode .nil pass0 (pa_cons (pv 1) pa_nil)))) (pss_one (ps_raise rfl (takes_of rfl rfl rfl rfl) (pmk_err T.e_BadMode T.g_BadMode T.n_super hr (pa_cons (pv 1) pa_nil)))) pss_nil)
  (pss_one (ps_if (pt_cmpR op_isN (pe_ix ix_list (pe_fld (pv 0) rfl) (pe_un un_neg pe_int) (fun _ _ => rfl)) pe_non (nomark _)) (pss_one (ps_expr (pe_meth (pv 0) T.k_Database T.m_Database_enter_alone G_Database_enter_alone (hr.mono (by decide)) T.b_Database_enter_alone .nil (passes_call (takes_of rfl rfl rfl rfl) (fun _ _ _ _ h => h)) (pa_cons (pv 1) pa_nil)))) (pss_one (ps_expr (pe_meth (pv 0) T.k_Database T.m_Database_enter_inside G_Database_enter_inside (hr.mono (by decide)) T.b_Database_enter_inside .nil (passes_call (takes_of rfl rfl rfl rfl) (fun _ _ _ _ h => h)) (pa_cons (pv 1) (pa_cons (pe_ix ix_list (pe_fld (pv 0) rfl) (pe_un un_neg pe_int) (fun _ _ => rfl)) pa_nil)))))))), ?_⟩
    dsimp only [cxOf]
    walk_at "rd"
    unfold enterV at k
    cases bm : modeB v with
    | false =>
      rw [bm] at k
      refine iteT ?_
      walk_at "rd"
      exact k H L hD Fr.refl
    | true =>
      rw [bm] at k
      refine iteF ?_
      obtain ⟨m, rfl⟩ : ∃ m, v = .str m := by
        cases v <;> first | exact ⟨_, rfl⟩ | cases bm
      dsimp only [if_true] at k
      rw [if_pos rfl] at k
      unfold enterD at k
      rcases hD.top with ⟨ts, st, et, es⟩ | ⟨t, ts, x, st, y, rs, et, es, ex, h4, h5⟩
      · rw [es] at k
        rw [et] at h2
        have e1 := rv_at (f := tV) (x := none) (l := ts)
        walk_at "rd"
        exact ⟨L, D, m, rfl, hD, hm, k⟩
      · obtain ⟨n, rs0⟩ := x
        dsimp only at ex
        subst ex
        rw [es] at k
        rw [et] at h2
        have e1 := rv_at (f := tV) (x := some t) (l := ts)
        walk_at "rd"
        exact ⟨L, D, m, t, ts, n, y, rs, st, rfl, hD, hm, et, es, k⟩
theorem enterV_mode {D : Db} {m : Str} (h : m ∈ modesS) : enterV D (.str m) = enterD D m := by
  unfold enterV
  rw [if_pos (mode_isB h)]
/-! ### doom -/
theorem bd_doom (T : Txt K mg a d) : Binds K d.Database_doom ["self", "first"] [] := by
  obtain ⟨ds, h1, h2⟩ := T.Database_doom.binds1 (ps := ["self", "first"]) 2 1 (by simp) rfl fun T kV doc pm an cdv ct us its hu hi => match us, hu, its, hi with | [_, _], _, [_], _ => ⟨_, rfl, rfl⟩
  cases h1
  exact h2
def doomD (D : Db) (z : Str) : Db := match D.stack with
  | some ⟨n, none :: rs⟩ :: st => { D with stack := some ⟨n, some z :: rs⟩ :: st }
  | _ => D
def doomV (D : Db) (v : V) : Db × Option EK := if wordB v = true then (match v with
  | .str z => (doomD D z, none)
  | _ => (D, none)) else (D, some (.badword v))
theorem IsWord.asc {w : Str} (h : IsWord w) : asc w := fun c hc => by
  have := h.al c hc
  omega
theorem word_thing {H : Hp} {w : Str} (h : IsWord w) : Thing H (.str w) := .str w (by rw [← len_toList]; have := h.hi; omega) h.asc
theorem doomV_word {D : Db} {z : Str} (h : IsWord z) : doomV D (.str z) = (doomD D z, none) := by
  unfold doomV
  rw [if_pos (show wordB (.str z) = true from h.ok)]
def spDoom (a : Ad) : Sp := fun vs H Q E => ∃ L D v, vs = [.ref L.db, v] ∧ Thing H v ∧ DB a H L D ∧ outE a (doomV D v) H L Q E
theorem ok_Database_doom (T : Txt K mg a d) : FnOk P w K mg base (L2.CX P w) 2 a.Database_doom d.Database_doom ["self", "first"] (spDoom a) := by
  have G_is_word : FnOk P w K mg base CX0 1 a.is_word d.is_word ["thing"] spIsWord := ok_is_word T
  refine T.Database_doom.ok sc_Database_doom (fun vs H Q E h => ?_) (fun cdv A outer s H vs Q E hr h => ?_)
  · obtain ⟨L, D, v, rfl, _⟩ := h
    rfl
  · obtain ⟨L, D, v, rfl, tz, hD, k⟩ := h
    have c1 := T.k_Database
    have c2 := T.k_Transaction
    have n1 := T.na_Database_stack
    have n3 := T.na_Transaction_reasons
    have h1 := hD.db
    have h2 := hD.s
    refine ⟨_, (pss_cons (ps_if (pt_not (pt_val (pe_call G_is_word (hr.mono (by decide)) (by rfl) T.g_is_word T.is_word.kp T.b_is_word .nil pass0 (pa_cons (pv 1) pa_nil)))) (pss_one (ps_raise rfl (takes_of rfl rfl rfl rfl) (pmk_err T.e_BadWord T.g_BadWord T.n_super hr (pa_cons (pv 1) pa_nil)))) pss_nil)
  (pss_cons (ps_set (i := 2) sc_Database_doom.nd rfl (Or.inl rfl) (pe_ix ix_list (pe_fld (pv 0) rfl) (pe_un un_neg pe_int) (fun _ _ => rfl)))
  (pss_one (ps_if (PW.pt (pw_and (pt_cmpR op_notN (pv 2) pe_non (nomark _)) (pw_and1 (pt_cmpR op_isN (pe_ix ix_list (pe_fld (pv 2) rfl) (pe_un un_neg pe_int) (fun _ _ => rfl)) pe_non (nomark _))))) (pss_one (ps_asg (pv 1) (pg_sub (pe_fld (pv 2) rfl) (pe_un un_neg pe_int) set_list))) pss_nil)))), ?_⟩
    dsimp only [cxOf]
    walk_at "rd"
    unfold doomV at k
    cases bz : wordB v with
    | false =>
      rw [bz] at k
      refine iteT ?_
      walk_at "rd"
      exact k H L hD Fr.refl
    | true =>
      rw [bz, if_pos rfl] at k
      refine iteF ?_
      obtain ⟨z, rfl⟩ : ∃ z, v = .str z := by
        cases v <;> first | exact ⟨_, rfl⟩ | cases bz
      unfold doomD at k
      dsimp only at k
      rcases hD.top with ⟨ts, st, et, es⟩ | ⟨t, ts, x, st, y, rs, et, es, ex, h4, h5⟩
      · rw [es] at k
        rw [et] at h2
        have e1 := rv_at (f := tV) (x := none) (l := ts)
        walk_at "rd"
        exact k H L hD Fr.refl
      · obtain ⟨n, rs0⟩ := x
        dsimp only at ex
        subst ex
        rw [es] at k
        rw [et] at h2
        have e1 := rv_at (f := tV) (x := some t) (l := ts)
        have e2 := rv_at (f := oV) (x := y) (l := rs)
        have e3 := rv_ix (f := oV) (x := y) (l := rs)
        have mt : some t ∈ L.ts := by rw [et]; exact List.mem_cons_self
        cases y with
        | some y =>
          walk_at "rd"
          exact k H L hD Fr.refl
        | none =>
          walk_at "rd"
          have hD2 := hD.setQ (rs := some z :: rs) et es (by simp)
          have f2 := Fr.set (H := H) (o := .lst (rv oV (some z :: rs))) (DbAt.mutQ mt)
          have z2 := k _ _ hD2 f2
          rw [← rv_set (x := none)] at z2
          exact z2
/-! ### the end of a level, of a transaction -/
def endE (err y : Option Str) (c : Bool) : Option EK := match err, y, c with
  | none, some z, _ => some (.doomed z)
  | none, none, false => some .refused
  | _, _, _ => none
def endLRow (n top : Int) (ok : Bool) (x : Row) : Row := if x.fate = "open" ∧ x.holder = n ∧ x.level = top then (if ok = true then { x with level := top - 1 } else { x with fate := "undone" }) else x
def endTRow (n : Int) (fate : Str) (x : Row) : Row := if x.fate = "open" ∧ x.holder = n then { x with fate := fate } else x
theorem cur_at {α : Type} {f : α → α} {l : List α} {i : Nat} (hi : i ≤ l.length) : ((l.take i).map f ++ l.drop i)[i]? = l[i]? := by
  rw [List.getElem?_append_right (by rw [List.length_map, List.length_take]; omega), List.length_map, List.length_take, Nat.min_eq_left hi, Nat.sub_self, List.getElem?_drop]; rfl
theorem cur_step {α : Type} {f : α → α} {l : List α} {i : Nat} {x : α} (h : l[i]? = some x) : ((l.take i).map f ++ l.drop i).set i (f x) = (l.take (i + 1)).map f ++ l.drop (i + 1) := by
  have hi : i < l.length := (List.getElem?_eq_some_iff.mp h).1
  have e1 : ((l.take i).map f).length = i := by rw [List.length_map, List.length_take]; omega
  rw [List.set_append_right _ _ (by omega), e1, Nat.sub_self, List.take_add_one, h, List.map_append]
  have e2 : l.drop i = x :: l.drop (i + 1) := by
    rw [List.drop_eq_getElem_cons hi]
    congr 1
    exact (List.getElem?_eq_some_iff.mp h).2
  rw [e2]
  simp
theorem cur_same {α : Type} {f : α → α} {l : List α} {i : Nat} {x : α} (h : l[i]? = some x) (e : f x = x) : (l.take i).map f ++ l.drop i = (l.take (i + 1)).map f ++ l.drop (i + 1) := by
  rw [← cur_step h, e]
  have hi : i < l.length := (List.getElem?_eq_some_iff.mp h).1
  have := cur_at (f := f) (Nat.le_of_lt hi)
  rw [h] at this
  obtain ⟨h1, h2⟩ := List.getElem?_eq_some_iff.mp this
  rw [← h2, List.set_getElem_self]
theorem map_ref {ws : List (Addr × Addr)} {i : Nat} {v : V} (h : (ws.map fun w => V.ref w.1)[i]? = some v) : ∃ w, ws[i]? = some w ∧ v = .ref w.1 := by
  rw [List.getElem?_map] at h
  cases e : ws[i]? with
  | none => rw [e] at h; cases h
  | some w =>
    rw [e] at h
    cases h
    exact ⟨w, rfl, rfl⟩
def endLD (D : Db) (err : Option Str) : Db × Option EK := match D.stack with
  | some ⟨n, y :: rs⟩ :: st => ({ D with stack := some ⟨n, rs⟩ :: st, rows := D.rows.map (endLRow n rs.length (err.isNone && y.isNone)) }, endE err y true)
  | _ => (D, none)
def spEndL (a : Ad) : Sp := fun vs H Q E => ∃ L D err n y z rs st, vs = [.ref L.db, oV err] ∧ DB a H L D ∧ Sm D ∧ D.stack = some ⟨n, y :: z :: rs⟩ :: st ∧ outE a (endLD D err) H L Q E
theorem ok_Database_end_level (T : Txt K mg a d) : FnOk P w K mg base (L2.CX P w) 1 a.Database_end_level d.Database_end_level ["self", "error"] (spEndL a) := by
  refine T.Database_end_level.okX sc_Database_end_level (fun vs H Q E h => ?_) (fun cdv A outer s H vs Q E hr h => ?_)
  · obtain ⟨L, D, err, n, y, z, rs, st, rfl, _⟩ := h
    rfl
  · obtain ⟨L, D, err, n, y, z, rs, st, rfl, hD, hm, es, k⟩ := h
    have c1 := T.k_Database
    have c2 := T.k_Transaction
    have c3 := T.k_Write
    have n1 := T.na_Database_stack
    have n2 := T.na_Database_rows
    have n3 := T.na_Transaction_reasons
    have n4 := T.na_Transaction_number
    have n5 := T.na_Write_fate
    have n6 := T.na_Write_holder
    have n7 := T.na_Write_level
    have h1 := hD.db
    have h2 := hD.s
    unfold endLD at k
    rw [es] at k
    dsimp only at k
    rcases hD.top with ⟨ts, st', et, es'⟩ | ⟨t, ts, x, st', y', rs', et, es', ex, h4, h5⟩
    · rw [es] at es'
      cases es'
    · rw [es] at es'
      cases es'
      cases ex
      rw [et] at h2
      have e1 := rv_at (f := tV) (x := some t) (l := ts)
      have e2 := rv_pop (f := oV) (x := y) (l := z :: rs)
      have mt : some t ∈ L.ts := by rw [et]; exact List.mem_cons_self
      have hD2 := hD.setQ (rs := z :: rs) et es (by simp)
      have f2 := Fr.set (H := H) (o := .lst (rv oV (z :: rs))) (DbAt.mutQ mt)
      obtain ⟨g3, g4, _⟩ : TxAt a.Transaction _ (some t) (some ⟨n, z :: rs⟩) := by
        have hx := hD2.txs
        rw [et] at hx
        cases hx
        assumption
      have g1 := hD2.db
      dsimp only at g1 g3 g4
      rw [← rv_drop (f := oV) (x := y) (l := z :: rs)] at hD2 f2 g1 g3 g4
      replace k := k.fr f2
      refine ⟨_, (pss_cons (ps_set (i := 2) sc_Database_end_level.nd rfl (Or.inl rfl) (pe_ix ix_list (pe_fld (pv 0) rfl) (pe_un un_neg pe_int) (fun _ _ => rfl)))
  (pss_cons (ps_set (i := 3) sc_Database_end_level.nd rfl (Or.inl rfl) (pe_bm0 PySem.F.plainAttrs_list PySem.F.slot_list_pop PySem.F.type_list_pop mt_pop (pe_fld (pv 2) rfl)))
  (pss_cons (ps_set (i := 4) sc_Database_end_level.nd rfl (Or.inl rfl) (pe_callB call_len_seq (by rfl) T.n_len PySem.boot_len (pa_cons (pe_fld (pv 2) rfl) pa_nil)))
  (pss_cons (ps_for (passes_of rfl) rfl (pi_list (pe_fld (pv 0) rfl)) (pg_name (i := 5) sc_Database_end_level.nd rfl (Or.inl rfl))
  (pss_one (ps_if (PW.pt (pw_and (pt_cmpR op_eq (pe_fld (pv 5) rfl) pe_str (nomark _)) (pw_and (pt_cmpR op_eq (pe_fld (pv 5) rfl) (pe_fld (pv 2) rfl) (nomark _)) (pw_and1 (pt_cmpR op_eq (pe_fld (pv 5) rfl) (pv 4) (nomark _)))))) (pss_one (ps_if (PW.pt (pw_and (pt_cmpR op_isN (pv 1) pe_non (nomark _)) (pw_and1 (pt_cmpR op_isN (pv 3) pe_non (nomark _))))) (pss_one (ps_fld (pv 5) (pe_op op_sub (pv 4) pe_int) rfl)) (pss_one (ps_fld (pv 5) pe_str rfl)))) pss_nil)))
  (pss_one (ps_if (PW.pt (pw_and (pt_cmpR op_isN (pv 1) pe_non (nomark _)) (pw_and1 (pt_cmpR op_notN (pv 3) pe_non (nomark _))))) (pss_one (ps_raise rfl (takes_of rfl rfl rfl rfl) (pmk_err T.e_Doomed T.g_Doomed T.n_super hr (pa_cons (pv 3) pa_nil)))) pss_nil)))))), ?_⟩
      dsimp only [cxOf]
      walk_at "rd"
      generalize upd H t.q (.lst (rv oV (y :: z :: rs)).dropLast) = H1 at hD2 f2 g1 g3 g4 k ⊢
      have ltop : (((rv oV (y :: z :: rs)).dropLast.length : Nat) : Int) = ((z :: rs).length : Int) := by rw [rv_drop, rv_len]
      rw [ltop]
      refine ⟨⟨_, SqL.of hD2.r⟩, ?_⟩
      refine for_list (xs := L.ws.map fun w => V.ref w.1) (fun i σ H' => ∃ v5, DB a H' L { D with stack := some ⟨n, z :: rs⟩ :: st, rows := (D.rows.take i).map (endLRow n ((z :: rs).length : Int) (err.isNone && y.isNone)) ++ D.rows.drop i } ∧ Fr H1 H' L L ∧ σ = [some (.ref L.db), some (oV err), some (.ref t.t), some (oV y), some (.int ((z :: rs).length : Int)), v5]) ?_ ?_ ?_ ?_
      · exact ⟨none, hD2, Fr.refl, rfl⟩
      · rintro i σ H' _ ⟨v5, hI, _, rfl⟩
        exact SqL.of hI.r
      · rintro i v σ H' hv ⟨v5, hI, fI, rfl⟩
        obtain ⟨w, hw, rfl⟩ := map_ref hv
        have hlw : L.ws.length = D.rows.length := hD.rows.len
        have hi : i < D.rows.length := by rw [← hlw]; exact (List.getElem?_eq_some_iff.mp hw).1
        obtain ⟨x, hx, hxw⟩ := hI.rows.get hw
        dsimp only at hx
        rw [cur_at (Nat.le_of_lt hi)] at hx
        have hxw : H' w.1 = some (.ins a.Write w.2 (rwF x)) := hxw
        have mw : Mut L w.1 := DbAt.mutW (List.mem_of_getElem? hw)
        obtain ⟨j3, j4, _⟩ : TxAt a.Transaction H' (some t) (some ⟨n, z :: rs⟩) := by
          have hx := hI.txs
          rw [et] at hx
          cases hx
          assumption
        dsimp only at j3 j4
        have fin1 : endLRow n ((z :: rs).length : Int) (err.isNone && y.isNone) x = x → DB a H' L { D with stack := some ⟨n, z :: rs⟩ :: st, rows := (D.rows.take (i + 1)).map (endLRow n ((z :: rs).length : Int) (err.isNone && y.isNone)) ++ D.rows.drop (i + 1) } := fun e => by
          rw [← cur_same hx e]; exact hI
        have fin2 : DB a (upd H' w.1 (.ins a.Write w.2 (rwF (endLRow n ((z :: rs).length : Int) (err.isNone && y.isNone) x)))) L { D with stack := some ⟨n, z :: rs⟩ :: st, rows := (D.rows.take (i + 1)).map (endLRow n ((z :: rs).length : Int) (err.isNone && y.isNone)) ++ D.rows.drop (i + 1) } := by
          rw [← cur_step hx]; exact hI.setRow hw
        walk_at "rd"
        refine ite2 (fun b1 => ?_) (fun b1 => ?_)
        · have q1 : x.fate = "open" := V.str.inj (of_decide_eq_true b1)
          walk_at "rd"
          refine ite2 (fun b2 => ?_) (fun b2 => ?_)
          · have q2 : x.holder = n := V.int.inj (of_decide_eq_true b2)
            walk_at "rd"
            refine ite2 (fun b3 => ?_) (fun b3 => ?_)
            · have q3 : x.level = ((z :: rs).length : Int) := V.int.inj (of_decide_eq_true b3)
              have er : endLRow n ((z :: rs).length : Int) (err.isNone && y.isNone) x = if (err.isNone && y.isNone) = true then { x with level := ((z :: rs).length : Int) - 1 } else { x with fate := "undone" } := if_pos ⟨q1, q2, q3⟩
              rw [er] at fin2
              cases err with
              | some e =>
                walk_at "rd"
                exact ⟨_, fin2, fI.trans (Fr.set mw), rfl⟩
              | none =>
                cases y with
                | some y =>
                  walk_at "rd"
                  exact ⟨_, fin2, fI.trans (Fr.set mw), rfl⟩
                | none =>
                  walk_at "rd"
                  exact ⟨_, fin2, fI.trans (Fr.set mw), rfl⟩
            · have q3 : ¬ x.level = ((z :: rs).length : Int) := fun e => b3 (decide_eq_true (congrArg V.int e))
              exact ⟨_, fin1 (if_neg fun c => q3 c.2.2), fI, rfl⟩
          · have q2 : ¬ x.holder = n := fun e => b2 (decide_eq_true (congrArg V.int e))
            exact ⟨_, fin1 (if_neg fun c => q2 c.2.1), fI, rfl⟩
        · have q1 : ¬ x.fate = "open" := fun e => b1 (decide_eq_true (congrArg V.str e))
          exact ⟨_, fin1 (if_neg fun c => q1 c.1), fI, rfl⟩
      · rintro σ H' ⟨v5, hI, fI, rfl⟩
        have hlw : L.ws.length = D.rows.length := hD.rows.len
        rw [List.length_map, hlw, List.take_length, List.drop_length, List.append_nil] at hI
        have k0 := k _ _ hI fI
        cases err with
        | some e =>
          walk_at "rd"
          cases y <;> exact k0
        | none =>
          cases y with
          | none =>
            walk_at "rd"
            exact k0
          | some y =>
            walk_at "rd"
            exact k0
def endTD (D : Db) (err : Option Str) (c : Bool) : Db × Option EK := match D.stack with
  | some ⟨n, y :: _⟩ :: st => ({ D with stack := st, rows := D.rows.map (endTRow n (if (err.isNone && y.isNone && c) = true then "kept" else "undone")) }, endE err y c)
  | _ => (D, none)
def spEndT (a : Ad) : Sp := fun vs H Q E => ∃ L D err c n y rs st, vs = [.ref L.db, oV err, .bl c] ∧ DB a H L D ∧ Sm D ∧ D.stack = some ⟨n, y :: rs⟩ :: st ∧ st ≠ [] ∧ outE a (endTD D err c) H L Q E
theorem ok_Database_end_transaction (T : Txt K mg a d) : FnOk P w K mg base (L2.CX P w) 1 a.Database_end_transaction d.Database_end_transaction ["self", "error", "commits"] (spEndT a) := by
  refine T.Database_end_transaction.okX sc_Database_end_transaction (fun vs H Q E h => ?_) (fun cdv A outer s H vs Q E hr h => ?_)
  · obtain ⟨L, D, err, c, n, y, rs, st, rfl, _⟩ := h
    rfl
  · obtain ⟨L, D, err, c, n, y, rs, st, rfl, hD, hm, es, hst, k⟩ := h
    have c1 := T.k_Database
    have c2 := T.k_Transaction
    have c3 := T.k_Write
    have n1 := T.na_Database_stack
    have n2 := T.na_Database_rows
    have n3 := T.na_Transaction_reasons
    have n4 := T.na_Transaction_number
    have n5 := T.na_Write_fate
    have n6 := T.na_Write_holder
    have h1 := hD.db
    have h2 := hD.s
    unfold endTD at k
    rw [es] at k
    dsimp only at k
    rcases hD.top with ⟨ts, st', et, es'⟩ | ⟨t, ts, x, st', y', rs', et, es', ex, h4, h5⟩
    · rw [es] at es'
      cases es'
    · rw [es] at es'
      cases es'
      cases ex
      rw [et] at h2
      have e1 := rv_pop (f := tV) (x := some t) (l := ts)
      have e2 := rv_at (f := oV) (x := y) (l := rs)
      have mt : some t ∈ L.ts := by rw [et]; exact List.mem_cons_self
      have hD2 := hD.popS et es hst
      have f2 := Fr.popS (H := H) (o := .lst (rv tV ts)) et
      have g1 := hD2.db
      have g3 := upd_oth (o := .lst (rv tV ts)) (ins_ne h4 hD.s) h4
      have g4 := upd_oth (o := .lst (rv tV ts)) ((hD.qn t mt).2.1) h5
      dsimp only at g1 g3 g4
      rw [← rv_drop (f := tV) (x := some t) (l := ts)] at hD2 f2 g1 g3 g4
      replace k := k.fr f2
      have ntw : ∀ w ∈ L.ws, t.t ≠ w.1 := fun w hw => by
        obtain ⟨x, hx⟩ := hD.row hw
        exact row_ne_tx hD hx mt
      refine ⟨_, (pss_cons (ps_set (i := 3) sc_Database_end_transaction.nd rfl (Or.inl rfl) (pe_bm0 PySem.F.plainAttrs_list PySem.F.slot_list_pop PySem.F.type_list_pop mt_pop (pe_fld (pv 0) rfl)))
  (pss_cons (ps_set (i := 4) sc_Database_end_transaction.nd rfl (Or.inl rfl) (pe_ix ix_list (pe_fld (pv 3) rfl) (pe_un un_neg pe_int) (fun _ _ => rfl)))
  (pss_cons (ps_set (i := 5) sc_Database_end_transaction.nd rfl (Or.inl rfl) (pe_ifExp (PW.pt (pw_and (pt_cmpR op_isN (pv 1) pe_non (nomark _)) (pw_and (pt_cmpR op_isN (pv 4) pe_non (nomark _)) (pw_and1 (pt_val (pv 2)))))) pe_str pe_str))
  (pss_cons (ps_for (passes_of rfl) rfl (pi_list (pe_fld (pv 0) rfl)) (pg_name (i := 6) sc_Database_end_transaction.nd rfl (Or.inl rfl))
  (pss_one (ps_if (PW.pt (pw_and (pt_cmpR op_eq (pe_fld (pv 6) rfl) pe_str (nomark _)) (pw_and1 (pt_cmpR op_eq (pe_fld (pv 6) rfl) (pe_fld (pv 3) rfl) (nomark _))))) (pss_one (ps_fld (pv 6) (pv 5) rfl)) pss_nil)))
  (pss_cons (ps_if (PW.pt (pw_and (pt_cmpR op_isN (pv 1) pe_non (nomark _)) (pw_and1 (pt_cmpR op_notN (pv 4) pe_non (nomark _))))) (pss_one (ps_raise rfl (takes_of rfl rfl rfl rfl) (pmk_err T.e_Doomed T.g_Doomed T.n_super hr (pa_cons (pv 4) pa_nil)))) pss_nil)
  (pss_one (ps_if (PW.pt (pw_and (pt_cmpR op_isN (pv 1) pe_non (nomark _)) (pw_and1 (pt_not (pt_val (pv 2)))))) (pss_one (ps_raise rfl (takes_of rfl rfl rfl rfl) (pmk_err0 T.e_Refused T.g_Refused T.n_super hr))) pss_nil))))))), ?_⟩
      dsimp only [cxOf]
      walk_at "rd"
      generalize upd H L.s (.lst (rv tV (some t :: ts)).dropLast) = H1 at hD2 f2 g1 g3 g4 k ⊢
      have hlw : L.ws.length = D.rows.length := hD.rows.len
      cases err with
      | some e =>
        walk_at "rd"
        refine ⟨⟨_, SqL.of hD2.r⟩, ?_⟩
        refine for_list (xs := L.ws.map fun w => V.ref w.1) (fun i σ H' => ∃ v6, DB a H' { L with ts := ts } { D with stack := st, rows := (D.rows.take i).map (endTRow n "undone") ++ D.rows.drop i } ∧ Fr H1 H' { L with ts := ts } { L with ts := ts } ∧ H' t.t = some (.ins a.Transaction t.dt (txF n t.q)) ∧ σ = [some (.ref L.db), some (oV (some e)), some (.bl c), some (.ref t.t), some (oV y), some (.str "undone"), v6]) ?_ ?_ ?_ ?_
        · exact ⟨none, hD2, Fr.refl, g3, rfl⟩
        · rintro i σ H' _ ⟨v6, hI, _, _, rfl⟩
          exact SqL.of hI.r
        · rintro i v σ H' hv ⟨v6, hI, fI, j3, rfl⟩
          obtain ⟨w, hw, rfl⟩ := map_ref hv
          have hi : i < D.rows.length := by rw [← hlw]; exact (List.getElem?_eq_some_iff.mp hw).1
          obtain ⟨x, hx, hxw⟩ := hI.rows.get hw
          dsimp only at hx
          rw [cur_at (Nat.le_of_lt hi)] at hx
          have hxw : H' w.1 = some (.ins a.Write w.2 (rwF x)) := hxw
          have wm := List.mem_of_getElem? hw
          have mw : Mut { L with ts := ts } w.1 := DbAt.mutW (L := { L with ts := ts }) wm
          have fin1 : endTRow n "undone" x = x → DB a H' { L with ts := ts } { D with stack := st, rows := (D.rows.take (i + 1)).map (endTRow n "undone") ++ D.rows.drop (i + 1) } := fun e => by
            rw [← cur_same hx e]; exact hI
          have fin2 : DB a (upd H' w.1 (.ins a.Write w.2 (rwF (endTRow n "undone" x)))) { L with ts := ts } { D with stack := st, rows := (D.rows.take (i + 1)).map (endTRow n "undone") ++ D.rows.drop (i + 1) } := by
            rw [← cur_step hx]; exact hI.setRow (L := { L with ts := ts }) hw
          walk_at "rd"
          refine ite2 (fun b1 => ?_) (fun b1 => ?_)
          · have q1 : x.fate = "open" := V.str.inj (of_decide_eq_true b1)
            walk_at "rd"
            refine ite2 (fun b2 => ?_) (fun b2 => ?_)
            · have q2 : x.holder = n := V.int.inj (of_decide_eq_true b2)
              have er : endTRow n "undone" x = { x with fate := "undone" } := if_pos ⟨q1, q2⟩
              rw [er] at fin2
              walk_at "rd"
              exact ⟨_, fin2, fI.trans (Fr.set mw), upd_oth (ntw w wm) j3, rfl⟩
            · have q2 : ¬ x.holder = n := fun e => b2 (decide_eq_true (congrArg V.int e))
              exact ⟨_, fin1 (if_neg fun c => q2 c.2), fI, j3, rfl⟩
          · have q1 : ¬ x.fate = "open" := fun e => b1 (decide_eq_true (congrArg V.str e))
            exact ⟨_, fin1 (if_neg fun c => q1 c.1), fI, j3, rfl⟩
        · rintro σ H' ⟨v6, hI, fI, j3, rfl⟩
          rw [List.length_map, hlw, List.take_length, List.drop_length, List.append_nil] at hI
          have k0 := k _ _ hI fI
          walk_at "rd"
          cases y <;> exact k0
      | none =>
        cases y with
        | some y =>
          walk_at "rd"
          refine ⟨⟨_, SqL.of hD2.r⟩, ?_⟩
          refine for_list (xs := L.ws.map fun w => V.ref w.1) (fun i σ H' => ∃ v6, DB a H' { L with ts := ts } { D with stack := st, rows := (D.rows.take i).map (endTRow n "undone") ++ D.rows.drop i } ∧ Fr H1 H' { L with ts := ts } { L with ts := ts } ∧ H' t.t = some (.ins a.Transaction t.dt (txF n t.q)) ∧ σ = [some (.ref L.db), some (oV none), some (.bl c), some (.ref t.t), some (oV (some y)), some (.str "undone"), v6]) ?_ ?_ ?_ ?_
          · exact ⟨none, hD2, Fr.refl, g3, rfl⟩
          · rintro i σ H' _ ⟨v6, hI, _, _, rfl⟩
            exact SqL.of hI.r
          · rintro i v σ H' hv ⟨v6, hI, fI, j3, rfl⟩
            obtain ⟨w, hw, rfl⟩ := map_ref hv
            have hi : i < D.rows.length := by rw [← hlw]; exact (List.getElem?_eq_some_iff.mp hw).1
            obtain ⟨x, hx, hxw⟩ := hI.rows.get hw
            dsimp only at hx
            rw [cur_at (Nat.le_of_lt hi)] at hx
            have hxw : H' w.1 = some (.ins a.Write w.2 (rwF x)) := hxw
            have wm := List.mem_of_getElem? hw
            have mw : Mut { L with ts := ts } w.1 := DbAt.mutW (L := { L with ts := ts }) wm
            have fin1 : endTRow n "undone" x = x → DB a H' { L with ts := ts } { D with stack := st, rows := (D.rows.take (i + 1)).map (endTRow n "undone") ++ D.rows.drop (i + 1) } := fun e => by
              rw [← cur_same hx e]; exact hI
            have fin2 : DB a (upd H' w.1 (.ins a.Write w.2 (rwF (endTRow n "undone" x)))) { L with ts := ts } { D with stack := st, rows := (D.rows.take (i + 1)).map (endTRow n "undone") ++ D.rows.drop (i + 1) } := by
              rw [← cur_step hx]; exact hI.setRow (L := { L with ts := ts }) hw
            walk_at "rd"
            refine ite2 (fun b1 => ?_) (fun b1 => ?_)
            · have q1 : x.fate = "open" := V.str.inj (of_decide_eq_true b1)
              walk_at "rd"
              refine ite2 (fun b2 => ?_) (fun b2 => ?_)
              · have q2 : x.holder = n := V.int.inj (of_decide_eq_true b2)
                have er : endTRow n "undone" x = { x with fate := "undone" } := if_pos ⟨q1, q2⟩
                rw [er] at fin2
                walk_at "rd"
                exact ⟨_, fin2, fI.trans (Fr.set mw), upd_oth (ntw w wm) j3, rfl⟩
              · have q2 : ¬ x.holder = n := fun e => b2 (decide_eq_true (congrArg V.int e))
                exact ⟨_, fin1 (if_neg fun c => q2 c.2), fI, j3, rfl⟩
            · have q1 : ¬ x.fate = "open" := fun e => b1 (decide_eq_true (congrArg V.str e))
              exact ⟨_, fin1 (if_neg fun c => q1 c.1), fI, j3, rfl⟩
          · rintro σ H' ⟨v6, hI, fI, j3, rfl⟩
            rw [List.length_map, hlw, List.take_length, List.drop_length, List.append_nil] at hI
            have k0 := k _ _ hI fI
            walk_at "rd"
            exact k0
        | none =>
          cases c with
          | true =>
            walk_at "rd"
            refine ⟨⟨_, SqL.of hD2.r⟩, ?_⟩
            refine for_list (xs := L.ws.map fun w => V.ref w.1) (fun i σ H' => ∃ v6, DB a H' { L with ts := ts } { D with stack := st, rows := (D.rows.take i).map (endTRow n "kept") ++ D.rows.drop i } ∧ Fr H1 H' { L with ts := ts } { L with ts := ts } ∧ H' t.t = some (.ins a.Transaction t.dt (txF n t.q)) ∧ σ = [some (.ref L.db), some (oV none), some (.bl true), some (.ref t.t), some (oV none), some (.str "kept"), v6]) ?_ ?_ ?_ ?_
            · exact ⟨none, hD2, Fr.refl, g3, rfl⟩
            · rintro i σ H' _ ⟨v6, hI, _, _, rfl⟩
              exact SqL.of hI.r
            · rintro i v σ H' hv ⟨v6, hI, fI, j3, rfl⟩
              obtain ⟨w, hw, rfl⟩ := map_ref hv
              have hi : i < D.rows.length := by rw [← hlw]; exact (List.getElem?_eq_some_iff.mp hw).1
              obtain ⟨x, hx, hxw⟩ := hI.rows.get hw
              dsimp only at hx
              rw [cur_at (Nat.le_of_lt hi)] at hx
              have hxw : H' w.1 = some (.ins a.Write w.2 (rwF x)) := hxw
              have wm := List.mem_of_getElem? hw
              have mw : Mut { L with ts := ts } w.1 := DbAt.mutW (L := { L with ts := ts }) wm
              have fin1 : endTRow n "kept" x = x → DB a H' { L with ts := ts } { D with stack := st, rows := (D.rows.take (i + 1)).map (endTRow n "kept") ++ D.rows.drop (i + 1) } := fun e => by
                rw [← cur_same hx e]; exact hI
              have fin2 : DB a (upd H' w.1 (.ins a.Write w.2 (rwF (endTRow n "kept" x)))) { L with ts := ts } { D with stack := st, rows := (D.rows.take (i + 1)).map (endTRow n "kept") ++ D.rows.drop (i + 1) } := by
                rw [← cur_step hx]; exact hI.setRow (L := { L with ts := ts }) hw
              walk_at "rd"
              refine ite2 (fun b1 => ?_) (fun b1 => ?_)
              · have q1 : x.fate = "open" := V.str.inj (of_decide_eq_true b1)
                walk_at "rd"
                refine ite2 (fun b2 => ?_) (fun b2 => ?_)
                · have q2 : x.holder = n := V.int.inj (of_decide_eq_true b2)
                  have er : endTRow n "kept" x = { x with fate := "kept" } := if_pos ⟨q1, q2⟩
                  rw [er] at fin2
                  walk_at "rd"
                  exact ⟨_, fin2, fI.trans (Fr.set mw), upd_oth (ntw w wm) j3, rfl⟩
                · have q2 : ¬ x.holder = n := fun e => b2 (decide_eq_true (congrArg V.int e))
                  exact ⟨_, fin1 (if_neg fun c => q2 c.2), fI, j3, rfl⟩
              · have q1 : ¬ x.fate = "open" := fun e => b1 (decide_eq_true (congrArg V.str e))
                exact ⟨_, fin1 (if_neg fun c => q1 c.1), fI, j3, rfl⟩
            · rintro σ H' ⟨v6, hI, fI, j3, rfl⟩
              rw [List.length_map, hlw, List.take_length, List.drop_length, List.append_nil] at hI
              have k0 := k _ _ hI fI
              walk_at "rd"
              exact k0
          | false =>
            walk_at "rd"
            refine ⟨⟨_, SqL.of hD2.r⟩, ?_⟩
            refine for_list (xs := L.ws.map fun w => V.ref w.1) (fun i σ H' => ∃ v6, DB a H' { L with ts := ts } { D with stack := st, rows := (D.rows.take i).map (endTRow n "undone") ++ D.rows.drop i } ∧ Fr H1 H' { L with ts := ts } { L with ts := ts } ∧ H' t.t = some (.ins a.Transaction t.dt (txF n t.q)) ∧ σ = [some (.ref L.db), some (oV none), some (.bl false), some (.ref t.t), some (oV none), some (.str "undone"), v6]) ?_ ?_ ?_ ?_
            · exact ⟨none, hD2, Fr.refl, g3, rfl⟩
            · rintro i σ H' _ ⟨v6, hI, _, _, rfl⟩
              exact SqL.of hI.r
            · rintro i v σ H' hv ⟨v6, hI, fI, j3, rfl⟩
              obtain ⟨w, hw, rfl⟩ := map_ref hv
              have hi : i < D.rows.length := by rw [← hlw]; exact (List.getElem?_eq_some_iff.mp hw).1
              obtain ⟨x, hx, hxw⟩ := hI.rows.get hw
              dsimp only at hx
              rw [cur_at (Nat.le_of_lt hi)] at hx
              have hxw : H' w.1 = some (.ins a.Write w.2 (rwF x)) := hxw
              have wm := List.mem_of_getElem? hw
              have mw : Mut { L with ts := ts } w.1 := DbAt.mutW (L := { L with ts := ts }) wm
              have fin1 : endTRow n "undone" x = x → DB a H' { L with ts := ts } { D with stack := st, rows := (D.rows.take (i + 1)).map (endTRow n "undone") ++ D.rows.drop (i + 1) } := fun e => by
                rw [← cur_same hx e]; exact hI
              have fin2 : DB a (upd H' w.1 (.ins a.Write w.2 (rwF (endTRow n "undone" x)))) { L with ts := ts } { D with stack := st, rows := (D.rows.take (i + 1)).map (endTRow n "undone") ++ D.rows.drop (i + 1) } := by
                rw [← cur_step hx]; exact hI.setRow (L := { L with ts := ts }) hw
              walk_at "rd"
              refine ite2 (fun b1 => ?_) (fun b1 => ?_)
              · have q1 : x.fate = "open" := V.str.inj (of_decide_eq_true b1)
                walk_at "rd"
                refine ite2 (fun b2 => ?_) (fun b2 => ?_)
                · have q2 : x.holder = n := V.int.inj (of_decide_eq_true b2)
                  have er : endTRow n "undone" x = { x with fate := "undone" } := if_pos ⟨q1, q2⟩
                  rw [er] at fin2
                  walk_at "rd"
                  exact ⟨_, fin2, fI.trans (Fr.set mw), upd_oth (ntw w wm) j3, rfl⟩
                · have q2 : ¬ x.holder = n := fun e => b2 (decide_eq_true (congrArg V.int e))
                  exact ⟨_, fin1 (if_neg fun c => q2 c.2), fI, j3, rfl⟩
              · have q1 : ¬ x.fate = "open" := fun e => b1 (decide_eq_true (congrArg V.str e))
                exact ⟨_, fin1 (if_neg fun c => q1 c.1), fI, j3, rfl⟩
            · rintro σ H' ⟨v6, hI, fI, j3, rfl⟩
              rw [List.length_map, hlw, List.take_length, List.drop_length, List.append_nil] at hI
              have k0 := k _ _ hI fI
              walk_at "rd"
              exact k0
/-! ### leave -/
theorem bd_leave0 (T : Txt K mg a d) : ∃ ds, Vals [V.non, .bl true] ds ∧ Binds K d.Database_leave ["self", "error", "commits"] ds :=
  T.Database_leave.binds (ps := ["self", "error", "commits"]) 1 0 (by simp) rfl (fun T D doc pm an cdv ct us its ks hu hi hk => match us, hu, its, hi, ks, hk with | [_], _, [_], _, [_], _ => ⟨_, rfl, _, _, _, _, _, _, rfl, rfl, rfl⟩) (by simp)
theorem bd_leave1 (T : Txt K mg a d) : ∃ ds, Vals [V.bl true] ds ∧ Binds K d.Database_leave ["self", "error", "commits"] ds :=
  T.Database_leave.binds (ps := ["self", "error", "commits"]) 2 1 (by simp) rfl (fun T D doc pm an cdv ct us its ks hu hi hk => match us, hu, its, hi, ks, hk with | [_, _], _, [_], _, [_], _ => ⟨_, rfl, _, _, _, _, _, _, rfl, rfl, rfl⟩) (by simp)
/-- the blocks and the transactions fit -/
inductive Wf : List Str → List (Option Tx) → Prop
  | nil : Wf [] [none]
  | plain {es st} (h : Wf es (none :: st)) : Wf ("plain" :: es) (none :: st)
  | base {es st n y} (h : Wf es st) : Wf ("base" :: es) (some ⟨n, [y]⟩ :: st)
  | level {es st n y z rs} (h : Wf es (some ⟨n, z :: rs⟩ :: st)) : Wf ("level" :: es) (some ⟨n, y :: z :: rs⟩ :: st)
  | joined {es st n y rs} (h : Wf es (some ⟨n, y :: rs⟩ :: st)) : Wf ("joined" :: es) (some ⟨n, y :: rs⟩ :: st)
  | outside {es st x} (h : Wf es (some x :: st)) : Wf ("outside" :: es) (none :: some x :: st)
theorem Wf.ne {es : List Str} {st : List (Option Tx)} (h : Wf es st) : st ≠ [] := by cases h <;> simp
def leaveW (D : Db) (err : Option Str) (c : Bool) : Db × Option EK := match D.entered with
  | [] => (D, some .noblock)
  | e :: es =>
    if e = "outside" then ({ D with entered := es, stack := D.stack.tail }, none) else
    if e = "joined" then ((match err with
      | some z => doomD { D with entered := es } z
      | none => { D with entered := es }), none) else
    if e = "level" then endLD { D with entered := es } err else
    if e = "base" then endTD { D with entered := es } err c else
    ({ D with entered := es }, none)
def leaveD (D : Db) (err : Option Str) (c : Bool) : Db × Option EK := if (D.entered.length : Int) ≤ D.floor then (D, some .noblock) else leaveW D err c
def leaveV (D : Db) (v : V) (c : Bool) : Db × Option EK := match v with
  | .non => leaveD D none c
  | .str z => if wordS z = true then leaveD D (some z) c else if (D.entered.length : Int) ≤ D.floor then (D, some .noblock) else (D, some (.badword v))
  | v => if (D.entered.length : Int) ≤ D.floor then (D, some .noblock) else (D, some (.badword v))
theorem leaveV_o {D : Db} {err : Option Str} {c : Bool} (h : ∀ z, err = some z → IsWord z) : leaveV D (oV err) c = leaveD D err c := by
  cases err with
  | none => rfl
  | some z =>
    show (if wordS z = true then _ else _) = _
    rw [if_pos (h z rfl).ok]
def spLeave (a : Ad) : Sp := fun vs H Q E => ∃ L D v c, vs = [.ref L.db, v, .bl c] ∧ Thing H v ∧ DB a H L D ∧ Sm D ∧ 0 ≤ D.floor ∧ Wf D.entered D.stack ∧ outE a (leaveV D v c) H L Q E
theorem ok_Database_leave (T : Txt K mg a d) : FnOk P w K mg base (L2.CX P w) 3 a.Database_leave d.Database_leave ["self", "error", "commits"] (spLeave a) := by
  have G_is_word : FnOk P w K mg base CX0 1 a.is_word d.is_word ["thing"] spIsWord := ok_is_word T
  have G_Database_doom : FnOk P w K mg base (L2.CX P w) 2 a.Database_doom d.Database_doom ["self", "first"] (spDoom a) := ok_Database_doom T
  have G_Database_end_level : FnOk P w K mg base (L2.CX P w) 1 a.Database_end_level d.Database_end_level ["self", "error"] (spEndL a) := ok_Database_end_level T
  have G_Database_end_transaction : FnOk P w K mg base (L2.CX P w) 1 a.Database_end_transaction d.Database_end_transaction ["self", "error", "commits"] (spEndT a) := ok_Database_end_transaction T
  refine T.Database_leave.ok sc_Database_leave (fun vs H Q E h => ?_) (fun cdv A outer s H vs Q E hr h => ?_)
  · obtain ⟨L, D, v, c, rfl, _⟩ := h
    rfl
  · obtain ⟨L, D, v, c, rfl, tv, hD, hm, hfl, hw, k⟩ := h
    have c1 := T.k_Database
    have n1 := T.na_Database_stack
    have n2 := T.na_Database_entered
    have n3 := T.na_Database_floor
    have h1 := hD.db
    have h2 := hD.s
    have h3 := hD.e
    refine ⟨_, (pss_cons (ps_if (pt_cmpR op_le (pe_callB call_len_seq (by rfl) T.n_len PySem.boot_len (pa_cons (pe_fld (pv 0) rfl) pa_nil)) (pe_fld (pv 0) rfl) (nomark _)) (pss_one (ps_raise rfl (takes_of rfl rfl rfl rfl) (pmk_err0 T.e_NoBlock T.g_NoBlock T.n_super hr))) pss_nil)
  (pss_cons (ps_if (PW.pt (pw_and (pt_cmpR op_notN (pv 1) pe_non (nomark _)) (pw_and1 (pt_not (pt_val (pe_call G_is_word (hr.mono (by decide)) (by rfl) T.g_is_word T.is_word.kp T.b_is_word .nil pass0 (pa_cons (pv 1) pa_nil))))))) (pss_one (ps_raise rfl (takes_of rfl rfl rfl rfl) (pmk_err T.e_BadWord T.g_BadWord T.n_super hr (pa_cons (pv 1) pa_nil)))) pss_nil)
  (pss_cons (ps_set (i := 3) sc_Database_leave.nd rfl (Or.inl rfl) (pe_bm0 PySem.F.plainAttrs_list PySem.F.slot_list_pop PySem.F.type_list_pop mt_pop (pe_fld (pv 0) rfl)))
  (pss_one (ps_if (pt_cmpR op_eq (pv 3) pe_str (nomark _)) (pss_one (ps_expr (pe_bm0 PySem.F.plainAttrs_list PySem.F.slot_list_pop PySem.F.type_list_pop mt_pop (pe_fld (pv 0) rfl)))) (pss_one (ps_if (PW.pt (pw_and (pt_cmpR op_eq (pv 3) pe_str (nomark _)) (pw_and1 (pt_cmpR op_notN (pv 1) pe_non (nomark _))))) (pss_one (ps_expr (pe_meth (pv 0) T.k_Database T.m_Database_doom G_Database_doom (hr.mono (by decide)) (bd_doom T) .nil (passes_call (takes_of rfl rfl rfl rfl) (fun _ _ _ _ h => h)) (pa_cons (pv 1) pa_nil)))) (pss_one (ps_if (pt_cmpR op_eq (pv 3) pe_str (nomark _)) (pss_one (ps_expr (pe_meth (pv 0) T.k_Database T.m_Database_end_level G_Database_end_level (hr.mono (by decide)) T.b_Database_end_level .nil (passes_call (takes_of rfl rfl rfl rfl) (fun _ _ _ _ h => h)) (pa_cons (pv 1) pa_nil)))) (pss_one (ps_if (pt_cmpR op_eq (pv 3) pe_str (nomark _)) (pss_one (ps_expr (pe_meth (pv 0) T.k_Database T.m_Database_end_transaction G_Database_end_transaction (hr.mono (by decide)) T.b_Database_end_transaction .nil (passes_call (takes_of rfl rfl rfl rfl) (fun _ _ _ _ h => h)) (pa_cons (pv 1) (pa_cons (pv 2) pa_nil))))) pss_nil))))))))))), ?_⟩
    dsimp only [cxOf]
    walk_at "rd"
    rw [rv_len]
    by_cases hfl2 : (D.entered.length : Int) ≤ D.floor
    · have k1 : outE a (D, some .noblock) H L Q E := by
        have e : leaveV D v c = (D, some .noblock) := by
          unfold leaveV leaveD
          repeat' split
          all_goals first | rfl | contradiction
        rw [e] at k
        exact k
      rw [decide_eq_true hfl2]
      refine iteT ?_
      walk_at "rd"
      exact k1 H L hD Fr.refl
    rw [decide_eq_false hfl2]
    refine iteF ?_
    have go : ∀ err : Option Str, (∀ z, err = some z → IsWord z) → v = oV err → outE a (leaveW D err c) H L Q E := fun err he hv => by
      subst hv
      rw [leaveV_o he] at k
      unfold leaveD at k
      rw [if_neg hfl2] at k
      exact k
    cases hent : D.entered with
    | nil =>
      rw [hent] at hfl2
      exact absurd hfl hfl2
    | cons e es =>
      rw [hent] at h3 hw
      have e2 := rv_pop (f := V.str) (x := e) (l := es)
      have hw2 := hw
      generalize est : D.stack = stk at hw2
      have hD2 := hD.setE es
      have f2 := Fr.set (H := H) (L := L) (o := .lst (rv V.str es)) DbAt.mutE
      have hm2 : Sm { D with entered := es } := ⟨by have := hm.e; rw [hent, List.length_cons] at this; exact Nat.le_of_succ_le this, hm.s, hm.r, hm.n⟩
      have g1 := hD2.db
      dsimp only at g1
      rw [← rv_drop (f := V.str) (x := e) (l := es)] at hD2 f2 g1
      have kk : ∀ err : Option Str, (∀ z, err = some z → IsWord z) → v = oV err → outE a (if e = "outside" then ({ D with entered := es, stack := D.stack.tail }, none) else if e = "joined" then ((match err with
          | some z => doomD { D with entered := es } z
          | none => { D with entered := es }), none) else if e = "level" then endLD { D with entered := es } err else if e = "base" then endTD { D with entered := es } err c else ({ D with entered := es }, none)) H L Q E := fun err he hv => by
        have := go err he hv
        unfold leaveW at this
        rw [hent] at this
        exact this
      cases hv0 : decide (v = .non) with
      | true =>
        cases (of_decide_eq_true hv0 : v = .non)
        have k0 := kk none (fun z e => nomatch e) rfl
        walk_at "rd"
        generalize upd H L.e (.lst (rv V.str (e :: es)).dropLast) = H2 at hD2 f2 g1 ⊢
        cases hw2 with
        | plain h =>
          walk_at "rd"
          have z := k0 _ _ hD2 f2
          exact z
        | outside h =>
          have et := hD2.top
          rcases et with ⟨ts, st', et, es'⟩ | ⟨t, ts, x, st', y', rs', et, es', ex, h4, h5⟩
          · dsimp only at es'
            rw [est] at es'
            cases es'
            have g2 := hD2.s
            rw [et] at g2
            have e3 := rv_pop (f := tV) (x := none) (l := ts)
            walk_at "rd"
            have hD3 := hD2.popS et est (by simp)
            have f3 := Fr.popS (H := H2) (o := .lst (rv tV ts)) et
            rw [← rv_drop (f := tV) (x := none) (l := ts)] at hD3 f3
            rw [est] at k0
            exact k0 _ _ hD3 (f2.trans f3)
          · dsimp only at es'
            rw [est] at es'
            cases es'
        | joined h =>
          walk_at "rd"
          have z := k0 _ _ hD2 f2
          exact z
        | level h =>
          walk_at "rd"
          exact ⟨L, { D with entered := es }, none, _, _, _, _, _, rfl, hD2, hm2, est, outE.fr k0 f2⟩
        | base h =>
          walk_at "rd"
          exact ⟨L, { D with entered := es }, none, c, _, _, _, _, rfl, hD2, hm2, est, h.ne, outE.fr k0 f2⟩
      | false =>
        have hnv : ¬ v = .non := of_decide_eq_false hv0
        walk_at "rd"
        rw [hv0]
        walk_at "rd"
        cases bz : wordB v with
        | false =>
          have k1 : outE a (D, some (.badword v)) H L Q E := by
            have e : leaveV D v c = (D, some (.badword v)) := by
              unfold leaveV
              split
              · exact absurd rfl hnv
              · rename_i z
                rw [if_neg (show ¬ wordS z = true from fun q => by rw [show wordB (.str z) = wordS z from rfl, q] at bz; cases bz), if_neg hfl2]
              · rw [if_neg hfl2]
            rw [e] at k
            exact k
          refine iteT ?_
          walk_at "rd"
          exact k1 H L hD Fr.refl
        | true =>
          refine iteF ?_
          obtain ⟨z, rfl⟩ : ∃ z, v = .str z := by
            cases v <;> first | exact ⟨_, rfl⟩ | cases bz
          have hz : IsWord z := wordS_of bz
          have k0 := kk (some z) (fun z' e => Option.some.inj e ▸ hz) rfl
          have tz := word_thing (H := upd H L.e (.lst (rv V.str (e :: es)).dropLast)) hz
          walk_at "rd"
          generalize upd H L.e (.lst (rv V.str (e :: es)).dropLast) = H2 at hD2 f2 g1 tz ⊢
          cases hw2 with
          | plain h =>
            walk_at "rd"
            have z := k0 _ _ hD2 f2
            exact z
          | outside h =>
            have et := hD2.top
            rcases et with ⟨ts, st', et, es'⟩ | ⟨t, ts, x, st', y', rs', et, es', ex, h4, h5⟩
            · dsimp only at es'
              rw [est] at es'
              cases es'
              have g2 := hD2.s
              rw [et] at g2
              have e3 := rv_pop (f := tV) (x := none) (l := ts)
              walk_at "rd"
              have hD3 := hD2.popS et est (by simp)
              have f3 := Fr.popS (H := H2) (o := .lst (rv tV ts)) et
              rw [← rv_drop (f := tV) (x := none) (l := ts)] at hD3 f3
              rw [est] at k0
              exact k0 _ _ hD3 (f2.trans f3)
            · dsimp only at es'
              rw [est] at es'
              cases es'
          | joined h =>
            walk_at "rd"
            refine ⟨L, { D with entered := es }, .str z, rfl, tz, hD2, ?_⟩
            rw [doomV_word hz]
            exact outE.fr k0 f2
          | level h =>
            walk_at "rd"
            exact ⟨L, { D with entered := es }, (some z), _, _, _, _, _, rfl, hD2, hm2, est, outE.fr k0 f2⟩
          | base h =>
            walk_at "rd"
            exact ⟨L, { D with entered := es }, (some z), c, _, _, _, _, rfl, hD2, hm2, est, h.ne, outE.fr k0 f2⟩
theorem cut_rv {α : Type} {f : α → V} {x : α} {l : List α} : cutV (rv f (x :: l)) none (some (-1)) = rv f l := by
  rw [rv_cons]
  show List.take (HT.sIx (rv f l ++ [f x]).length (rv f l ++ [f x]).length (some (-1)) - 0) (List.drop 0 (rv f l ++ [f x])) = rv f l
  rw [List.drop_zero, Nat.sub_zero]
  have e : HT.sIx (rv f l ++ [f x]).length (rv f l ++ [f x]).length (some (-1)) = (rv f l).length := by
    unfold HT.sIx
    rw [List.length_append, List.length_singleton]
    simp only
    rw [if_pos (by decide)]
    omega
  rw [e, List.take_left]
/-! ### held records -/
def spHeldBy (K : PySem.W.Frag) (a : Ad) : Sp := fun vs H Q _ => ∃ L D p ns, vs = [.ref L.db, .ref p] ∧ SqL K H p (ns.map V.int) ∧ DB a H L D ∧ Sm D ∧
  ∀ H' q, Same H H' → H' q = some (.lst ((sortT (heldL D.rows ns)).map V.str)) → H q = none → Q (.ref q) H'
theorem inV_ints {i : Int} {ns : List Int} : inV (.int i) (ns.map V.int) = decide (i ∈ ns) := by
  unfold inV
  rw [List.any_map]
  induction ns with
  | nil => rfl
  | cons n r ih =>
    rw [List.any_cons, ih]
    have e : eqV (V.int n) (V.int i) = decide (n = i) := by
      show (n == i) = decide (n = i)
      exact (by by_cases h : n = i <;> simp [h])
    show (eqV (V.int n) (V.int i) || decide (i ∈ r)) = _
    rw [e]
    by_cases h : n = i
    · subst h
      simp
    · have h' : ¬ i = n := fun z => h z.symm
      simp [h, h']
theorem ok_Database_held_by (T : Txt K mg a d) : FnOk P w K mg base CX0 1 a.Database_held_by d.Database_held_by ["self", "numbers"] (spHeldBy K a) := by
  refine T.Database_held_by.ok sc_Database_held_by (fun vs H Q E h => ?_) (fun cdv A outer s H vs Q E hr h => ?_)
  · obtain ⟨L, D, p, ns, rfl, _⟩ := h
    rfl
  · obtain ⟨L, D, p, ns, rfl, hp, hD, hm, k⟩ := h
    have c1 := T.k_Database
    have c3 := T.k_Write
    have n2 := T.na_Database_rows
    have n5 := T.na_Write_fate
    have n6 := T.na_Write_holder
    have n7 := T.na_Write_record
    have h1 := hD.db
    have h2 := hD.r
    refine ⟨_, (pss_one (ps_ret (pe_callB (cr_sortTS rfl) (by rfl) T.n_sorted (by decide +kernel) (pa_cons (pe_scT (own := [("row", 2)]) rfl sc_Database_held_by.nd (pi_list (pe_fld (pv 0) rfl)) (blkOk_by (own := [("row", 2)]) (N := ["self", "numbers", "row"]) (sc := defScope s_Database_held_by) (by decide +kernel)) (fun _ _ _ _ _ => (pg_name (i := 2) sc_Database_held_by.nd rfl (Or.inl rfl))) (fun _ _ _ _ _ => (pts_one (PW.pt (pw_and (pt_cmpR op_eq (pe_fldK (K := K) rfl (pv 2) rfl) pe_str (nomark _)) (pw_and1 (pt_cmpR (op_inK (K := K) rfl) (pe_fldK (K := K) rfl (pv 2) rfl) (pv 1) (by rfl))))))) (fun _ _ _ _ _ => (pe_fldK (K := K) rfl (pv 2) rfl))) pa_nil)))), ?_⟩
    dsimp only [cxOf]
    walk_at "rd"
    refine ⟨⟨_, SqL.of h2⟩, ?_⟩
    intro S hS
    have hlw : L.ws.length = D.rows.length := hD.rows.len
    refine sc_listT (xs := L.ws.map fun w => V.ref w.1) (fun i H' => Kp (fun b => b = S) H H' ∧ H' S = some (TSO w S (heldL (D.rows.take i) ns))) ?_ ?_ ?_ ?_
    · exact ⟨Kp.refl.fresh hS, upd_same⟩
    · rintro i H' _ ⟨kp, _⟩
      exact SqL.of (kp _ _ h2 (ne_of_none h2 hS))
    · rintro i v H' hv ⟨kp, hS'⟩
      obtain ⟨w', hw, rfl⟩ := map_ref hv
      obtain ⟨x, hx, hxw⟩ := hD.rows.get hw
      have hxw : H w'.1 = some (.ins a.Write w'.2 (rwF x)) := hxw
      have hx' := kp _ _ hxw (ne_of_none hxw hS)
      have hp' : SqL K H' p (ns.map V.int) := (Same.seq (Kp.same (Same.refl H) kp fun c e => e ▸ hS) hp)
      have hl : (heldL (D.rows.take i) ns).length + 1 < scanBound := by
        have h1 := held_len (rows := D.rows.take i) (ns := ns)
        have h2 := hm.n
        have h3 : (D.rows.take i).length ≤ D.rows.length := by rw [List.length_take]; omega
        have h4 : scanBound = 4096 := rfl
        omega
      rw [held_take (ns := ns) hx]
      walk_at "rd"
      refine ite2 (fun b1 => ?_) (fun b1 => ?_)
      · have q1 : x.fate = "open" := V.str.inj (of_decide_eq_true b1)
        walk_at "rd"
        refine ⟨?_, ?_⟩
        · rw [List.all_map]
          exact List.all_eq_true.mpr fun _ _ => rfl
        rw [show (if false = true then !inV (V.int x.holder) (ns.map V.int) else inV (V.int x.holder) (ns.map V.int)) = inV (V.int x.holder) (ns.map V.int) from rfl, inV_ints]
        by_cases b2 : x.holder ∈ ns
        · rw [decide_eq_true b2, show heldS ns (heldL (D.rows.take i) ns) x = addT x.rcd (heldL (D.rows.take i) ns) from if_pos ⟨q1, b2⟩]
          walk_at "rd"
          first
            | exact ⟨kp.set1, upd_same⟩
            | exact upd_same
        · rw [decide_eq_false b2, show heldS ns (heldL (D.rows.take i) ns) x = heldL (D.rows.take i) ns from if_neg fun c => b2 c.2]
          exact ⟨_, rfl, kp, hS'⟩
      · have q1 : ¬ x.fate = "open" := fun e => b1 (decide_eq_true (congrArg V.str e))
        rw [show heldS ns (heldL (D.rows.take i) ns) x = heldL (D.rows.take i) ns from if_neg fun c => q1 c.1]
        exact ⟨kp, hS'⟩
    · rintro H' ⟨kp, hS'⟩
      rw [List.length_map, hlw, List.take_length] at hS'
      have sm : Same H H' := Kp.same (Same.refl H) kp fun c e => e ▸ hS
      refine ⟨S, _, rfl, hS', fun q hq => k _ q (sm.new hq) upd_same (sm.free hq)⟩
/-- [one.number for one in ts if one is not None] -/
def numsR (st : List (Option Tx)) : List Int := (st.reverse.filterMap fun t => t.map (·.num))
def outerL (D : Db) : List Str := sortT (heldL D.rows (numsR D.stack.tail))
def ownL (D : Db) : List Str := sortT (heldL D.rows (numsR (D.stack.take 1)))
theorem nums_step {st : List (Option Tx)} {i : Nat} {t : Option Tx} (h : st.reverse[i]? = some t) : (st.reverse.take (i + 1)).filterMap (fun t => t.map (·.num)) = (st.reverse.take i).filterMap (fun t => t.map (·.num)) ++ (t.map (·.num)).toList := by
  rw [List.take_add_one, h, List.filterMap_append]
  cases t <;> rfl
theorem All2.rev {α β : Type} {R : α → β → Prop} {l : List α} {m : List β} (a : All2 R l m) : All2 R l.reverse m.reverse := by
  induction a with
  | nil => exact .nil
  | cons r _ ih => rw [List.reverse_cons, List.reverse_cons]; exact ih.snoc r
def spRecs (a : Ad) (f : Db → List Str) : Sp := fun vs H Q _ => ∃ L D, vs = [.ref L.db] ∧ DB a H L D ∧ Sm D ∧ ∀ H' q, Same H H' → H' q = some (.lst ((f D).map V.str)) → H q = none → Q (.ref q) H'
theorem ok_Database_outer_records (T : Txt K mg a d) : FnOk P w K mg base CX0 2 a.Database_outer_records d.Database_outer_records ["self"] (spRecs a outerL) := by
  have G_Database_held_by : FnOk P w K mg base CX0 1 a.Database_held_by d.Database_held_by ["self", "numbers"] (spHeldBy K a) := ok_Database_held_by T
  refine T.Database_outer_records.ok sc_Database_outer_records (fun vs H Q E h => ?_) (fun cdv A outer s H vs Q E hr h => ?_)
  · obtain ⟨L, D, rfl, _⟩ := h
    rfl
  · obtain ⟨L, D, rfl, hD, hm, k⟩ := h
    have c1 := T.k_Database
    have c2 := T.k_Transaction
    have n1 := T.na_Database_stack
    have n4 := T.na_Transaction_number
    have h1 := hD.db
    have h2 := hD.s
    obtain ⟨t0, ts, x0, st, et, es, a2⟩ : ∃ t0 ts x0 st, L.ts = t0 :: ts ∧ D.stack = x0 :: st ∧ All2 (TxAt a.Transaction H) ts st := by
      have hx := hD.txs
      have ne := hD.ne
      generalize L.ts = l at hx ⊢
      generalize D.stack = m at hx ne ⊢
      cases hx with
      | nil => exact absurd rfl ne
      | cons r t => exact ⟨_, _, _, _, rfl, rfl, t⟩
    have a3 := a2.rev
    have ol : outerL D = sortT (heldL D.rows (numsR st)) := by unfold outerL; rw [es]; rfl
    refine ⟨_, (pss_one (ps_ret (pe_meth (pv 0) T.k_Database T.m_Database_held_by G_Database_held_by (hr.mono (by decide)) T.b_Database_held_by .nil pass0 (pa_cons (pe_lc (own := [("one", 1)]) rfl sc_Database_outer_records.nd (pi_list (pe_slice sl_list (pe_fld (pv 0) rfl) po_none (po_some (pe_un un_neg pe_int)))) (blkOk_by (own := [("one", 1)]) (N := ["self", "one"]) (sc := defScope s_Database_outer_records) (by decide +kernel)) (fun _ _ _ _ _ => (pg_name (i := 1) sc_Database_outer_records.nd rfl (Or.inl rfl))) (fun _ _ _ _ _ => (pts_one (pt_cmpR op_notN (pv 1) pe_non (nomark _)))) (fun _ _ _ _ _ => (pe_fldK (K := K) rfl (pv 1) rfl))) pa_nil)))), ?_⟩
    dsimp only [cxOf]
    walk_at "rd"
    intro p1 f1
    rw [et, cut_rv]
    have s1 : Same H (upd H p1 (.lst (rv tV ts))) := (Same.refl H).new f1
    refine ⟨_, rfl, ⟨_, SqL.of upd_same⟩, ?_⟩
    intro S hS
    have s2 : Same H (upd (upd H p1 (.lst (rv tV ts))) S (.lst [])) := s1.new hS
    have nS : p1 ≠ S := ne_of_none upd_same hS
    refine lc_list (xs := rv tV ts) (fun i H' => Kp (fun b => b = S) (upd H p1 (.lst (rv tV ts))) H' ∧ H' S = some (.lst (((st.reverse.take i).filterMap fun t => t.map (·.num)).map V.int))) ?_ ?_ ?_ ?_
    · exact ⟨Kp.refl.fresh hS, upd_same⟩
    · rintro i H' _ ⟨kp, _⟩
      exact SqL.of (kp _ _ upd_same nS)
    · rintro i v H' hv ⟨kp, hS'⟩
      have hv' : ts.reverse.map tV = rv tV ts := by unfold rv; rw [List.map_reverse]
      rw [← hv', List.getElem?_map] at hv
      cases e : ts.reverse[i]? with
      | none => rw [e] at hv; cases hv
      | some t =>
        rw [e] at hv
        cases hv
        obtain ⟨x, hx, hxt⟩ := a3.get e
        have hst := nums_step hx
        cases t with
        | none =>
          cases x with
          | some x => exact hxt.elim
          | none =>
            walk_at "rd"
            try refine ⟨kp, ?_⟩
            rw [hst]
            simpa using hS'
        | some t =>
          cases x with
          | none => exact hxt.elim
          | some x =>
            obtain ⟨j1, _, _⟩ := hxt
            have hl : (((st.reverse.take i).filterMap fun t => t.map (·.num)).map V.int).length < sizeLine := by
              rw [List.length_map, sizeLine_eq]
              have h1 := List.length_filterMap_le (fun t : Option Tx => t.map (·.num)) (st.reverse.take i)
              have h2 := hm.s
              rw [es, List.length_cons] at h2
              rw [List.length_take, List.length_reverse] at h1
              omega
            have j2 := kp _ _ (s1 _ _ j1) (ne_of_none (s1 _ _ j1) hS)
            walk_at "rd"
            try refine ⟨kp.set1, ?_⟩
            rw [hst, List.map_append]
            exact upd_same
    · rintro H' ⟨kp, hS'⟩
      rw [rv_len, a2.len, ← List.length_reverse, List.take_length] at hS'
      have sm : Same H H' := Kp.same s1 kp fun c e => e ▸ s1.free hS
      have hx1 := sm _ _ h1
      walk_at "rd"
      exact ⟨L, D, S, numsR st, rfl, SqL.of hS', hD.keep (fun b u _ e => sm b u e), hm, fun H2 q s2 hq nq => k H2 q (sm.trans s2) (ol ▸ hq) (sm.free nq)⟩
theorem cut_last {α : Type} {f : α → V} {x : α} {l : List α} : cutV (rv f (x :: l)) (some (-1)) none = [f x] := by
  rw [rv_cons]
  show List.take (HT.sIx (rv f l ++ [f x]).length (rv f l ++ [f x]).length none - HT.sIx (rv f l ++ [f x]).length 0 (some (-1))) (List.drop (HT.sIx (rv f l ++ [f x]).length 0 (some (-1))) (rv f l ++ [f x])) = [f x]
  have e1 : HT.sIx (rv f l ++ [f x]).length 0 (some (-1)) = (rv f l).length := by
    unfold HT.sIx
    rw [List.length_append, List.length_singleton]
    simp only
    rw [if_pos (by decide)]
    omega
  have e2 : HT.sIx (rv f l ++ [f x]).length (rv f l ++ [f x]).length none = (rv f l).length + 1 := by
    unfold HT.sIx
    rw [List.length_append, List.length_singleton]
  rw [e1, e2, List.drop_left]
  simp
theorem ok_Database_held_records (T : Txt K mg a d) : FnOk P w K mg base CX0 2 a.Database_held_records d.Database_held_records ["self"] (spRecs a ownL) := by
  have G_Database_held_by : FnOk P w K mg base CX0 1 a.Database_held_by d.Database_held_by ["self", "numbers"] (spHeldBy K a) := ok_Database_held_by T
  refine T.Database_held_records.ok sc_Database_held_records (fun vs H Q E h => ?_) (fun cdv A outer s H vs Q E hr h => ?_)
  · obtain ⟨L, D, rfl, _⟩ := h
    rfl
  · obtain ⟨L, D, rfl, hD, hm, k⟩ := h
    have c1 := T.k_Database
    have c2 := T.k_Transaction
    have n1 := T.na_Database_stack
    have n4 := T.na_Transaction_number
    have h1 := hD.db
    have h2 := hD.s
    obtain ⟨t0, ts, x0, st, et, es, r0⟩ : ∃ t0 ts x0 st, L.ts = t0 :: ts ∧ D.stack = x0 :: st ∧ TxAt a.Transaction H t0 x0 := by
      have hx := hD.txs
      have ne := hD.ne
      generalize L.ts = l at hx ⊢
      generalize D.stack = m at hx ne ⊢
      cases hx with
      | nil => exact absurd rfl ne
      | cons r t => exact ⟨_, _, _, _, rfl, rfl, r⟩
    have ol : ownL D = sortT (heldL D.rows (numsR [x0])) := by unfold ownL; rw [es]; rfl
    refine ⟨_, (pss_one (ps_ret (pe_meth (pv 0) T.k_Database T.m_Database_held_by G_Database_held_by (hr.mono (by decide)) T.b_Database_held_by .nil pass0 (pa_cons (pe_lc (own := [("one", 1)]) rfl sc_Database_held_records.nd (pi_list (pe_slice sl_list (pe_fld (pv 0) rfl) (po_some (pe_un un_neg pe_int)) po_none)) (blkOk_by (own := [("one", 1)]) (N := ["self", "one"]) (sc := defScope s_Database_held_records) (by decide +kernel)) (fun _ _ _ _ _ => (pg_name (i := 1) sc_Database_held_records.nd rfl (Or.inl rfl))) (fun _ _ _ _ _ => (pts_one (pt_cmpR op_notN (pv 1) pe_non (nomark _)))) (fun _ _ _ _ _ => (pe_fldK (K := K) rfl (pv 1) rfl))) pa_nil)))), ?_⟩
    dsimp only [cxOf]
    walk_at "rd"
    intro p1 f1
    rw [et, cut_last]
    have s1 : Same H (upd H p1 (.lst [tV t0])) := (Same.refl H).new f1
    refine ⟨_, rfl, ⟨_, SqL.of upd_same⟩, ?_⟩
    intro S hS
    have nS : p1 ≠ S := ne_of_none upd_same hS
    refine lc_list (xs := [tV t0]) (fun i H' => Kp (fun b => b = S) (upd H p1 (.lst [tV t0])) H' ∧ H' S = some (.lst ((([x0].take i).filterMap fun t => t.map (·.num)).map V.int))) ?_ ?_ ?_ ?_
    · exact ⟨Kp.refl.fresh hS, upd_same⟩
    · rintro i H' _ ⟨kp, _⟩
      exact SqL.of (kp _ _ upd_same nS)
    · rintro i v H' hv ⟨kp, hS'⟩
      cases i with
      | succ i => simp at hv
      | zero =>
        cases hv
        have hS'' : H' S = some (.lst []) := hS'
        cases t0 with
        | none =>
          cases x0 with
          | some x => exact r0.elim
          | none =>
            walk_at "rd"
            first
              | exact ⟨kp, hS'⟩
              | exact hS'
        | some t =>
          cases x0 with
          | none => exact r0.elim
          | some x =>
            obtain ⟨j1, _, _⟩ := r0
            have j2 := kp _ _ (s1 _ _ j1) (ne_of_none (s1 _ _ j1) hS)
            walk_at "rd"
            try refine ⟨kp.set1, ?_⟩
            exact upd_same
    · rintro H' ⟨kp, hS'⟩
      have sm : Same H H' := Kp.same s1 kp fun c e => e ▸ s1.free hS
      have hx1 := sm _ _ h1
      walk_at "rd"
      refine ⟨L, D, S, numsR [x0], rfl, SqL.of ?_, hD.keep (fun b u _ e => sm b u e), hm, fun H2 q s2 hq nq => k H2 q (sm.trans s2) (ol ▸ hq) (sm.free nq)⟩
      exact hS'
/-! ### writes -/
def spWrI (a : Ad) : Sp := fun vs H Q _ => ∃ (x dx : Addr) (r : Row), vs = [.ref x, .str r.rcd, r.val, .str r.fate, .int r.holder, .int r.level] ∧ H x = some (.ins a.Write dx []) ∧ Q .non (upd H x (.ins a.Write dx (rwF r)))
theorem upd_upd {H : Hp} {a : Addr} {o u : HO} : upd (upd H a o) a u = upd H a u := by
  funext b
  by_cases h : b = a
  · subst h
    rw [upd_same, upd_same]
  · rw [upd_ne h, upd_ne h, upd_ne h]
theorem ok_WriteU_initU (T : Txt K mg a d) : FnOk P w K mg base CX0 1 a.WriteU_initU d.WriteU_initU ["self", "record", "value", "fate", "holder", "level"] (spWrI a) := by
  refine T.WriteU_initU.ok sc_WriteU_initU (fun vs H Q E h => ?_) (fun cdv A outer s H vs Q E hr h => ?_)
  · obtain ⟨x, dx, r, rfl, _⟩ := h
    rfl
  · obtain ⟨x, dx, r, rfl, hx, k⟩ := h
    have c1 := T.k_Write
    have n1 := T.na_Write_record
    have n2 := T.na_Write_value
    have n3 := T.na_Write_fate
    have n4 := T.na_Write_holder
    have n5 := T.na_Write_level
    refine ⟨_, (pss_cons (ps_fld (pv 0) (pv 1) rfl)
  (pss_cons (ps_fld (pv 0) (pv 2) rfl)
  (pss_cons (ps_fld (pv 0) (pv 3) rfl)
  (pss_cons (ps_fld (pv 0) (pv 4) rfl)
  (pss_one (ps_fld (pv 0) (pv 5) rfl)))))), ?_⟩
    dsimp only [cxOf]
    walk_at "rd"
    rw [upd_upd, upd_upd, upd_upd, upd_upd]
    exact k
def spWait (a : Ad) : Sp := fun vs H Q _ => ∃ L D z, vs = [.ref L.db, .str z] ∧ DB a H L D ∧ Sm D ∧ ∀ H', Same H H' → Q (.bl (decide (z ∈ outerL D))) H'
theorem inV_strs {z : Str} {l : List Str} : inV (.str z) (l.map V.str) = decide (z ∈ l) := by
  unfold inV
  rw [List.any_map]
  induction l with
  | nil => rfl
  | cons n r ih =>
    rw [List.any_cons, ih]
    show ((n == z) || decide (z ∈ r)) = _
    by_cases h : n = z
    · subst h
      simp
    · have h' : ¬ z = n := fun q => h q.symm
      simp [h, h']
theorem flat_strs {l : List Str} : (l.map V.str).all flatV = true := by
  rw [List.all_map]
  exact List.all_eq_true.mpr fun _ _ => rfl
theorem ok_Database_would_wait (T : Txt K mg a d) : FnOk P w K mg base CX0 3 a.Database_would_wait d.Database_would_wait ["self", "record"] (spWait a) := by
  have G_Database_outer_records : FnOk P w K mg base CX0 2 a.Database_outer_records d.Database_outer_records ["self"] (spRecs a outerL) := ok_Database_outer_records T
  refine T.Database_would_wait.ok sc_Database_would_wait (fun vs H Q E h => ?_) (fun cdv A outer s H vs Q E hr h => ?_)
  · obtain ⟨L, D, z, rfl, _⟩ := h
    rfl
  · obtain ⟨L, D, z, rfl, hD, hm, k⟩ := h
    have h1 := hD.db
    refine ⟨_, (pss_one (ps_ret (pe_cmpR op_in_seq (pv 1) (pe_meth0 (pv 0) T.k_Database T.m_Database_outer_records G_Database_outer_records (hr.mono (by decide)) T.b_Database_outer_records .nil pass0) (by rfl)))), ?_⟩
    dsimp only [cxOf]
    walk_at "rd"
    refine ⟨L, D, rfl, hD, hm, fun H' q s' hq _ => ?_⟩
    refine ⟨q, _, rfl, .inl (SqL.of hq), rfl, flat_strs, ?_⟩
    rw [show (if false = true then !inV (V.str z) ((outerL D).map V.str) else inV (V.str z) ((outerL D).map V.str)) = inV (V.str z) ((outerL D).map V.str) from rfl, inV_strs]
    exact k H' s'
def addD (D : Db) (r : Row) : Db := { D with rows := D.rows ++ [r] }
def writeD (D : Db) (z : Str) (v : V) : Db × Option EK := match D.stack with
  | none :: _ => if z ∈ outerL D then (D, some (.waits z)) else (addD D ⟨z, v, "kept", -1, 0⟩, none)
  | some ⟨n, y :: rs⟩ :: _ => (match y with
    | some w => (D, some (.doomed w))
    | none => if z ∈ outerL D then (D, some (.waits z)) else (addD D ⟨z, v, "open", n, rs.length⟩, none))
  | _ => (D, none)
def spWrite (a : Ad) : Sp := fun vs H Q E => ∃ L D z v, vs = [.ref L.db, .str z, v] ∧ DB a H L D ∧ Sm D ∧ outE a (writeD D z v) H L Q E
theorem ok_Database_write (T : Txt K mg a d) : FnOk P w K mg base (L2.CX P w) 4 a.Database_write d.Database_write ["self", "record", "value"] (spWrite a) := by
  have G_Database_would_wait : FnOk P w K mg base CX0 3 a.Database_would_wait d.Database_would_wait ["self", "record"] (spWait a) := ok_Database_would_wait T
  have G_WriteU_initU : FnOk P w K mg base CX0 1 a.WriteU_initU d.WriteU_initU ["self", "record", "value", "fate", "holder", "level"] (spWrI a) := ok_WriteU_initU T
  refine T.Database_write.okX sc_Database_write (fun vs H Q E h => ?_) (fun cdv A outer s H vs Q E hr h => ?_)
  · obtain ⟨L, D, z, v, rfl, _⟩ := h
    rfl
  · obtain ⟨L, D, z, v, rfl, hD, hm, k⟩ := h
    have c1 := T.k_Database
    have c2 := T.k_Transaction
    have n1 := T.na_Database_stack
    have n2 := T.na_Database_rows
    have n3 := T.na_Transaction_reasons
    have n4 := T.na_Transaction_number
    have h1 := hD.db
    have h2 := hD.s
    have lr : (L.ws.map fun w => V.ref w.1).length < sizeLine := by
      rw [List.length_map, hD.rows.len, sizeLine_eq]
      have := hm.n
      omega
    refine ⟨_, (pss_cons (ps_set (i := 3) sc_Database_write.nd rfl (Or.inl rfl) (pe_ix ix_list (pe_fld (pv 0) rfl) (pe_un un_neg pe_int) (fun _ _ => rfl)))
  (pss_cons (ps_if (PW.pt (pw_and (pt_cmpR op_notN (pv 3) pe_non (nomark _)) (pw_and1 (pt_cmpR op_notN (pe_ix ix_list (pe_fld (pv 3) rfl) (pe_un un_neg pe_int) (fun _ _ => rfl)) pe_non (nomark _))))) (pss_one (ps_raise rfl (takes_of rfl rfl rfl rfl) (pmk_err T.e_Doomed T.g_Doomed T.n_super hr (pa_cons (pe_ix ix_list (pe_fld (pv 3) rfl) (pe_un un_neg pe_int) (fun _ _ => rfl)) pa_nil)))) pss_nil)
  (pss_cons (ps_if (pt_val (pe_meth (pv 0) T.k_Database T.m_Database_would_wait G_Database_would_wait (hr.mono (by decide)) T.b_Database_would_wait .nil pass0 (pa_cons (pv 1) pa_nil))) (pss_one (ps_raise rfl (takes_of rfl rfl rfl rfl) (pmk_err T.e_Waits T.g_Waits T.n_super hr (pa_cons (pv 1) pa_nil)))) pss_nil)
  (pss_one (ps_if (pt_cmpR op_isN (pv 3) pe_non (nomark _)) (pss_one (ps_expr (pe_bm PySem.F.plainAttrs_list PySem.F.slot_list_append PySem.F.type_list_append mt_append (pe_fld (pv 0) rfl) (pa_cons (pe_make T.mk_Write G_WriteU_initU (hr.mono (by decide)) (by rfl) T.g_Write T.b_WriteU_initU .nil pass0 (pa_cons (pv 1) (pa_cons (pv 2) (pa_cons pe_str (pa_cons (pe_un un_neg pe_int) (pa_cons pe_int pa_nil)))))) pa_nil)))) (pss_one (ps_expr (pe_bm PySem.F.plainAttrs_list PySem.F.slot_list_append PySem.F.type_list_append mt_append (pe_fld (pv 0) rfl) (pa_cons (pe_make T.mk_Write G_WriteU_initU (hr.mono (by decide)) (by rfl) T.g_Write T.b_WriteU_initU .nil pass0 (pa_cons (pv 1) (pa_cons (pv 2) (pa_cons pe_str (pa_cons (pe_fld (pv 3) rfl) (pa_cons (pe_op op_sub (pe_callB call_len_seq (by rfl) T.n_len PySem.boot_len (pa_cons (pe_fld (pv 3) rfl) pa_nil)) pe_int) pa_nil)))))) pa_nil))))))))), ?_⟩
    dsimp only [cxOf]
    unfold writeD at k
    -- the row made
    have mk : ∀ (r : Row) {H1 : Hp}, Same H H1 → outE a (addD D r, none) H L Q E → ∀ x dx, H1 x = none → H1 dx = none → dx ≠ x → Q .non (upd (upd (upd (upd H1 dx (HO.own x)) x (HO.ins a.Write dx [])) x (HO.ins a.Write dx (rwF r))) L.r (.lst ((L.ws.map fun w => V.ref w.1) ++ [.ref x]))) := fun r H1 s1 k x dx hx hdx nx => by
      have s2 : Same H (upd (upd (upd H1 dx (HO.own x)) x (HO.ins a.Write dx [])) x (HO.ins a.Write dx (rwF r))) := ((s1.new hdx).frsh (s1.free hx)).frsh (s1.free hx)
      have hD2 : DB a _ L D := hD.keep fun b u _ e => s2 b u e
      have hD3 := hD2.addRow (w := (x, dx)) (x := r) upd_same (hD.fresh (s1.free hx))
      have f3 := Fr.addRow (L := L) (w := (x, dx)) (o := .lst ((L.ws ++ [(x, dx)]).map fun w => .ref w.1)) (.of_same s2) (s1.free hx)
      have z := k _ _ hD3 f3
      rw [List.map_append] at z
      exact z
    rcases hD.top with ⟨ts, st, et, es⟩ | ⟨t, ts, x, st, y, rs, et, es, ex, h4, h5⟩
    · rw [es] at k
      rw [et] at h2
      have e1 := rv_at (f := tV) (x := none) (l := ts)
      walk_at "rd"
      refine ⟨L, D, z, rfl, hD, hm, fun H1 s1 => ?_⟩
      have hD1 : DB a H1 L D := hD.keep fun b u _ e => s1 b u e
      have j1 := hD1.db
      have j2 := hD1.r
      by_cases b1 : z ∈ outerL D
      · rw [if_pos b1] at k
        rw [decide_eq_true b1]
        walk_at "rd"
        exact k H1 L hD1 (Fr.same s1)
      · rw [if_neg b1] at k
        rw [decide_eq_false b1]
        walk_at "rd"
        intro x dx hx hdx nx
        refine ⟨x, dx, ⟨z, v, "kept", -1, 0⟩, rfl, upd_same, rfl, ?_⟩
        have q1 : upd (upd (upd H1 dx (HO.own x)) x (HO.ins a.Write dx [])) x (HO.ins a.Write dx (rwF ⟨z, v, "kept", -1, 0⟩)) L.r = some (.lst (L.ws.map fun w => .ref w.1)) := upd_oth (ne_of_none j2 hx) (upd_oth (ne_of_none j2 hx) (upd_old j2 hdx))
        refine ⟨L.r, _, _, rfl, rfl, q1, lr, mk _ s1 k x dx hx hdx nx⟩
    · obtain ⟨n, rs0⟩ := x
      dsimp only at ex
      subst ex
      rw [es] at k
      rw [et] at h2
      have e1 := rv_at (f := tV) (x := some t) (l := ts)
      have e2 := rv_at (f := oV) (x := y) (l := rs)
      cases y with
      | some y =>
        walk_at "rd"
        exact k H L hD Fr.refl
      | none =>
        walk_at "rd"
        refine ⟨L, D, z, rfl, hD, hm, fun H1 s1 => ?_⟩
        have hD1 : DB a H1 L D := hD.keep fun b u _ e => s1 b u e
        have j1 := hD1.db
        have j2 := hD1.r
        have j4 := s1 _ _ h4
        have j5 := s1 _ _ h5
        dsimp only at k
        by_cases b1 : z ∈ outerL D
        · rw [if_pos b1] at k
          rw [decide_eq_true b1]
          walk_at "rd"
          exact k H1 L hD1 (Fr.same s1)
        · rw [if_neg b1] at k
          rw [decide_eq_false b1]
          walk_at "rd"
          rw [rv_len]
          intro x dx hx hdx nx
          have el : ((none :: rs : List (Option Str)).length : Int) - 1 = (rs.length : Int) := by rw [List.length_cons]; omega
          refine ⟨x, dx, ⟨z, v, "open", n, rs.length⟩, ?_, upd_same, rfl, ?_⟩
          · show _ = [V.ref x, V.str z, v, V.str "open", V.int n, V.int (rs.length : Int)]
            rw [← el]; rfl
          have q1 : upd (upd (upd H1 dx (HO.own x)) x (HO.ins a.Write dx [])) x (HO.ins a.Write dx (rwF ⟨z, v, "open", n, rs.length⟩)) L.r = some (.lst (L.ws.map fun w => .ref w.1)) := upd_oth (ne_of_none j2 hx) (upd_oth (ne_of_none j2 hx) (upd_old j2 hdx))
          refine ⟨L.r, _, _, rfl, rfl, q1, lr, mk _ s1 k x dx hx hdx nx⟩
def setV (D : Db) (u v : V) : Db × Option EK := if wordB u = true then (match u with
  | .str z => writeD D z v
  | _ => (D, none)) else (D, some (.badword u))
theorem setV_word {D : Db} {z : Str} {v : V} (h : IsWord z) : setV D (.str z) v = writeD D z v := by
  unfold setV
  rw [if_pos (show wordB (.str z) = true from h.ok)]
def spSet (a : Ad) : Sp := fun vs H Q E => ∃ L D u v, vs = [.ref L.db, u, v] ∧ Thing H u ∧ DB a H L D ∧ Sm D ∧ outE a (setV D u v) H L Q E
theorem ok_DatabaseU_setitemU (T : Txt K mg a d) : FnOk P w K mg base (L2.CX P w) 5 a.DatabaseU_setitemU d.DatabaseU_setitemU ["self", "record", "value"] (spSet a) := by
  have G_is_word : FnOk P w K mg base CX0 1 a.is_word d.is_word ["thing"] spIsWord := ok_is_word T
  have G_Database_write : FnOk P w K mg base (L2.CX P w) 4 a.Database_write d.Database_write ["self", "record", "value"] (spWrite a) := ok_Database_write T
  refine T.DatabaseU_setitemU.okX sc_DatabaseU_setitemU (fun vs H Q E h => ?_) (fun cdv A outer s H vs Q E hr h => ?_)
  · obtain ⟨L, D, u, v, rfl, _⟩ := h
    rfl
  · obtain ⟨L, D, u, v, rfl, tu, hD, hm, k⟩ := h
    have h1 := hD.db
    refine ⟨_, (pss_cons (ps_if (pt_not (pt_val (pe_call G_is_word (hr.mono (by decide)) (by rfl) T.g_is_word T.is_word.kp T.b_is_word .nil pass0 (pa_cons (pv 1) pa_nil)))) (pss_one (ps_raise rfl (takes_of rfl rfl rfl rfl) (pmk_err T.e_BadWord T.g_BadWord T.n_super hr (pa_cons (pv 1) pa_nil)))) pss_nil)
  (pss_one (ps_expr (pe_meth (pv 0) T.k_Database T.m_Database_write G_Database_write (hr.mono (by decide)) T.b_Database_write .nil (passes_call (takes_of rfl rfl rfl rfl) (fun _ _ _ _ h => h)) (pa_cons (pv 1) (pa_cons (pv 2) pa_nil)))))), ?_⟩
    try dsimp only [cxOf]
    walk_at "rd"
    unfold setV at k
    cases bz : wordB u with
    | false =>
      rw [bz] at k
      refine iteT ?_
      walk_at "rd"
      exact k H L hD Fr.refl
    | true =>
      rw [bz, if_pos rfl] at k
      refine iteF ?_
      obtain ⟨z, rfl⟩ : ∃ z, u = .str z := by
        cases u <;> first | exact ⟨_, rfl⟩ | cases bz
      walk_at "rd"
      exact ⟨L, D, z, v, rfl, hD, hm, k⟩
/-! ### the law's own stack of transactions: lists of levels [reason, records] -/
structure Lvl where
  rsn : Option Str
  recs : List Str
abbrev LvA := Addr × Addr
abbrev TxA := Addr × List LvA
def LvAt (H : Hp) (l : LvA) (x : Lvl) : Prop := H l.1 = some (.lst [oV x.rsn, .ref l.2]) ∧ H l.2 = some (.lst (x.recs.map V.str))
def lvV (l : LvA) : V := .ref l.1
def txV (q : TxA) : V := .ref q.1
def TxM (H : Hp) (q : TxA) (ls : List Lvl) : Prop := H q.1 = some (.lst (rv lvV q.2)) ∧ All2 (LvAt H) q.2 ls
def mutsT (q : TxA) : List Addr := q.1 :: q.2.map (·.1)
def immT (q : TxA) : List Addr := q.2.map (·.2)
def muts (p so : Addr) (Ls : List TxA) : List Addr := p :: so :: Ls.flatMap mutsT
def imms (Ls : List TxA) : List Addr := Ls.flatMap immT
structure M7 (H : Hp) (p so : Addr) (Ls : List TxA) (stk : List (List Lvl)) (ss : List Str) : Prop where
  hp : H p = some (.lst (rv txV Ls))
  hs : H so = some (.lst (rv V.str ss))
  hq : All2 (TxM H) Ls stk
  nd : (muts p so Ls).Nodup
  im : ∀ r ∈ imms Ls, r ∉ muts p so Ls
section
variable {H H' : Hp} {p so : Addr} {q : TxA} {Ls : List TxA} {ls : List Lvl} {stk : List (List Lvl)} {ss : List Str}
theorem TxM.keep (h : TxM H q ls) (k : ∀ b u, b ∈ mutsT q ∨ b ∈ immT q → H b = some u → H' b = some u) : TxM H' q ls :=
  ⟨k _ _ (.inl List.mem_cons_self) h.1, h.2.imp fun l x hl hx => ⟨k _ _ (.inl (List.mem_cons_of_mem _ (List.mem_map_of_mem hl))) hx.1, k _ _ (.inr (List.mem_map_of_mem hl)) hx.2⟩⟩
theorem all_keep {Ls : List TxA} (h : All2 (TxM H) Ls stk) (k : ∀ b u, b ∈ Ls.flatMap mutsT ∨ b ∈ imms Ls → H b = some u → H' b = some u) : All2 (TxM H') Ls stk :=
  h.imp fun q ls hq hx => hx.keep fun b u hb => k b u (hb.imp (fun z => List.mem_flatMap.mpr ⟨q, hq, z⟩) fun z => List.mem_flatMap.mpr ⟨q, hq, z⟩)
theorem M7.keep (h : M7 H p so Ls stk ss) (k : ∀ b u, b ∈ muts p so Ls ∨ b ∈ imms Ls → H b = some u → H' b = some u) : M7 H' p so Ls stk ss :=
  ⟨k _ _ (.inl List.mem_cons_self) h.hp, k _ _ (.inl (List.mem_cons_of_mem _ List.mem_cons_self)) h.hs, all_keep h.hq fun b u hb => k b u (hb.imp (fun z => List.mem_cons_of_mem _ (List.mem_cons_of_mem _ z)) id), h.nd, h.im⟩
theorem M7.same (h : M7 H p so Ls stk ss) (k : Same H H') : M7 H' p so Ls stk ss := h.keep fun b u _ e => k b u e
theorem M7.there (h : M7 H p so Ls stk ss) {b : Addr} (m : b ∈ muts p so Ls ∨ b ∈ imms Ls) : ∃ xs, H b = some (.lst xs) := by
  have go : ∀ q, q ∈ Ls → b ∈ mutsT q ∨ b ∈ immT q → ∃ xs, H b = some (.lst xs) := fun q hq hb => by
    obtain ⟨ls, _, h1, h2⟩ := h.hq.mem hq
    rcases hb with hb | hb
    · rcases List.mem_cons.mp hb with rfl | hb
      · exact ⟨_, h1⟩
      · obtain ⟨l, hl, rfl⟩ := List.mem_map.mp hb
        obtain ⟨x, _, hx⟩ := h2.mem hl
        exact ⟨_, hx.1⟩
    · obtain ⟨l, hl, rfl⟩ := List.mem_map.mp hb
      obtain ⟨x, _, hx⟩ := h2.mem hl
      exact ⟨_, hx.2⟩
  rcases m with m | m
  · rcases List.mem_cons.mp m with rfl | m
    · exact ⟨_, h.hp⟩
    rcases List.mem_cons.mp m with rfl | m
    · exact ⟨_, h.hs⟩
    obtain ⟨q, hq, hb⟩ := List.mem_flatMap.mp m
    exact go q hq (.inl hb)
  · obtain ⟨q, hq, hb⟩ := List.mem_flatMap.mp m
    exact go q hq (.inr hb)
theorem nd3 {p so : Addr} {l : List Addr} (h : (p :: so :: l).Nodup) : p ≠ so ∧ p ∉ l ∧ so ∉ l ∧ l.Nodup := by
  obtain ⟨h1, h2⟩ := List.nodup_cons.mp h
  obtain ⟨h3, h4⟩ := List.nodup_cons.mp h2
  exact ⟨fun z => h1 (z ▸ List.mem_cons_self), fun z => h1 (List.mem_cons_of_mem _ z), h3, h4⟩
/-- the sorts change -/
theorem M7.setS (h : M7 H p so Ls stk ss) (ss' : List Str) : M7 (upd H so (.lst (rv V.str ss'))) p so Ls stk ss' := by
  obtain ⟨n1, n2, n3, n4⟩ := nd3 h.nd
  refine ⟨upd_oth n1 h.hp, upd_same, all_keep h.hq fun b u hb e => upd_oth (fun z => ?_) e, h.nd, h.im⟩
  rcases hb with hb | hb
  · exact n3 (z ▸ hb)
  · exact h.im b hb (z ▸ List.mem_cons_of_mem _ List.mem_cons_self)
/-- a transaction more -/
theorem M7.push (h : M7 H p so Ls stk ss) (hq : TxM H q ls) (n1 : ∀ b ∈ mutsT q, b ∉ muts p so Ls ∧ b ∉ imms Ls ∧ b ∉ immT q) (n2 : (mutsT q).Nodup) (n3 : ∀ b ∈ immT q, b ∉ muts p so Ls) :
    M7 (upd H p (.lst (rv txV (q :: Ls)))) p so (q :: Ls) (ls :: stk) ss := by
  obtain ⟨m1, m2, m3, m4⟩ := nd3 h.nd
  have pm : p ∈ muts p so Ls := List.mem_cons_self
  have sm : so ∈ muts p so Ls := List.mem_cons_of_mem _ List.mem_cons_self
  refine ⟨upd_same, upd_oth (Ne.symm m1) h.hs, .cons (hq.keep fun b u hb e => upd_oth (fun z => ?_) e) (all_keep h.hq fun b u hb e => upd_oth (fun z => ?_) e), ?_, ?_⟩
  · rcases hb with hb | hb
    · exact (n1 b hb).1 (z ▸ pm)
    · exact n3 b hb (z ▸ pm)
  · rcases hb with hb | hb
    · exact m2 (z ▸ hb)
    · exact h.im b hb (z ▸ pm)
  · show (p :: so :: (mutsT q ++ Ls.flatMap mutsT)).Nodup
    refine List.nodup_cons.mpr ⟨fun z => ?_, List.nodup_cons.mpr ⟨fun z => ?_, List.nodup_append.mpr ⟨n2, m4, fun a ha b hb e => ?_⟩⟩⟩
    · rcases List.mem_cons.mp z with z | z
      · exact m1 z
      · rcases List.mem_append.mp z with z | z
        · exact (n1 p z).1 pm
        · exact m2 z
    · rcases List.mem_append.mp z with z | z
      · exact (n1 so z).1 sm
      · exact m3 z
    · exact (n1 a ha).1 (e ▸ List.mem_cons_of_mem _ (List.mem_cons_of_mem _ hb))
  · intro r hr z
    have hr : r ∈ immT q ++ imms Ls := hr
    have z : r ∈ p :: so :: (mutsT q ++ Ls.flatMap mutsT) := z
    have key : r ∈ mutsT q ∨ r ∈ muts p so Ls := by
      rcases List.mem_cons.mp z with z | z
      · exact .inr (z ▸ pm)
      rcases List.mem_cons.mp z with z | z
      · exact .inr (z ▸ sm)
      rcases List.mem_append.mp z with z | z
      · exact .inl z
      · exact .inr (List.mem_cons_of_mem _ (List.mem_cons_of_mem _ z))
    rcases List.mem_append.mp hr with hr | hr
    · rcases key with k | k
      · exact (n1 r k).2.2 hr
      · exact n3 r hr k
    · rcases key with k | k
      · exact (n1 r k).2.1 hr
      · exact h.im r hr k
/-- a transaction less -/
theorem M7.pop (h : M7 H p so (q :: Ls) (ls :: stk) ss) : M7 (upd H p (.lst (rv txV Ls))) p so Ls stk ss := by
  obtain ⟨m1, m2, m3, m4⟩ := nd3 (show (p :: so :: (mutsT q ++ Ls.flatMap mutsT)).Nodup from h.nd)
  have hq := h.hq
  cases hq with
  | cons _ hq =>
    have im : ∀ r ∈ imms Ls, r ∉ p :: so :: (mutsT q ++ Ls.flatMap mutsT) := fun r hr => h.im r (List.mem_append_right _ hr)
    refine ⟨upd_same, upd_oth (Ne.symm m1) h.hs, all_keep hq fun b u hb e => upd_oth (fun z => ?_) e, ?_, fun r hr z => ?_⟩
    · rcases hb with hb | hb
      · exact m2 (z ▸ List.mem_append_right _ hb)
      · exact im b hb (z ▸ List.mem_cons_self)
    · refine List.nodup_cons.mpr ⟨fun z => ?_, List.nodup_cons.mpr ⟨fun z => m3 (List.mem_append_right _ z), (List.nodup_append.mp m4).2.1⟩⟩
      rcases List.mem_cons.mp z with z | z
      · exact m1 z
      · exact m2 (List.mem_append_right _ z)
    · refine im r hr ?_
      rcases List.mem_cons.mp z with z | z
      · exact z ▸ List.mem_cons_self
      rcases List.mem_cons.mp z with z | z
      · exact z ▸ List.mem_cons_of_mem _ List.mem_cons_self
      · exact List.mem_cons_of_mem _ (List.mem_cons_of_mem _ (List.mem_append_right _ z))
/-- the top level changes: reason, records -/
theorem M7.setL {qa : Addr} {l : LvA} {lv : List LvA} {x x' : Lvl} {r' : Addr} (h : M7 H p so ((qa, l :: lv) :: Ls) ((x :: ls) :: stk) ss) (hr : H r' = some (.lst (x'.recs.map V.str))) (nr : r' ∉ muts p so ((qa, l :: lv) :: Ls)) :
    M7 (upd H l.1 (.lst [oV x'.rsn, .ref r'])) p so ((qa, (l.1, r') :: lv) :: Ls) ((x' :: ls) :: stk) ss := by
  have nd : (p :: so :: qa :: l.1 :: (lv.map (·.1) ++ Ls.flatMap mutsT)).Nodup := h.nd
  obtain ⟨m1, m2, m3, m4⟩ := nd3 nd
  obtain ⟨k1, k2⟩ := List.nodup_cons.mp m4
  obtain ⟨k3, k4⟩ := List.nodup_cons.mp k2
  have im : ∀ r ∈ l.2 :: (lv.map (·.2) ++ imms Ls), r ∉ p :: so :: qa :: l.1 :: (lv.map (·.1) ++ Ls.flatMap mutsT) := h.im
  have lm : l.1 ∈ p :: so :: qa :: l.1 :: (lv.map (·.1) ++ Ls.flatMap mutsT) := by simp
  have hq := h.hq
  cases hq with
  | cons h1 hq =>
    obtain ⟨h1, h2⟩ := h1
    cases h2 with
    | cons h3 h4 =>
      refine ⟨upd_oth (fun z => m2 (by rw [z]; simp)) h.hp, upd_oth (fun z => m3 (by rw [z]; simp)) h.hs, .cons ⟨upd_oth (fun z => k1 (by rw [show qa = l.1 from z]; simp)) h1, .cons ⟨upd_same, upd_oth (fun z => nr (by rw [show r' = l.1 from z]; exact lm)) hr⟩ (h4.imp fun m y hm hy => ⟨upd_oth (fun z => k3 ?_) hy.1, upd_oth (fun z => im m.2 ?_ (z ▸ lm)) hy.2⟩)⟩ (all_keep hq fun b u hb e => upd_oth (fun z => ?_) e), nd, ?_⟩
      · rw [← z]
        exact List.mem_append_left _ (List.mem_map_of_mem hm)
      · exact List.mem_cons_of_mem _ (List.mem_append_left _ (List.mem_map_of_mem hm))
      · rcases hb with hb | hb
        · exact k3 (z ▸ List.mem_append_right _ hb)
        · exact im b (List.mem_cons_of_mem _ (List.mem_append_right _ hb)) (z ▸ lm)
      · intro r hr'
        have hr' : r ∈ r' :: (lv.map (·.2) ++ imms Ls) := hr'
        rcases List.mem_cons.mp hr' with rfl | hr'
        · exact nr
        · exact im r (List.mem_cons_of_mem _ hr')
/-- a level more -/
theorem M7.pushL {qa : Addr} {lv : List LvA} {l : LvA} {x : Lvl} (h : M7 H p so ((qa, lv) :: Ls) (ls :: stk) ss) (hl : LvAt H l x) (n1 : l.1 ∉ muts p so ((qa, lv) :: Ls)) (n2 : l.1 ∉ imms ((qa, lv) :: Ls)) (n3 : l.2 ∉ muts p so ((qa, lv) :: Ls)) (n4 : l.1 ≠ l.2) :
    M7 (upd H qa (.lst (rv lvV (l :: lv)))) p so ((qa, l :: lv) :: Ls) ((x :: ls) :: stk) ss := by
  have nd : (p :: so :: qa :: (lv.map (·.1) ++ Ls.flatMap mutsT)).Nodup := h.nd
  obtain ⟨m1, m2, m3, m4⟩ := nd3 nd
  obtain ⟨k1, k2⟩ := List.nodup_cons.mp m4
  have im : ∀ r ∈ lv.map (·.2) ++ imms Ls, r ∉ p :: so :: qa :: (lv.map (·.1) ++ Ls.flatMap mutsT) := h.im
  have qm : qa ∈ p :: so :: qa :: (lv.map (·.1) ++ Ls.flatMap mutsT) := by simp
  have n1' : l.1 ∉ p :: so :: qa :: (lv.map (·.1) ++ Ls.flatMap mutsT) := n1
  have n2' : l.1 ∉ lv.map (·.2) ++ imms Ls := n2
  have n3' : l.2 ∉ p :: so :: qa :: (lv.map (·.1) ++ Ls.flatMap mutsT) := n3
  have hq := h.hq
  cases hq with
  | cons h1 hq =>
    obtain ⟨h1, h2⟩ := h1
    refine ⟨upd_oth (fun z => m2 (by rw [z]; simp)) h.hp, upd_oth (fun z => m3 (by rw [z]; simp)) h.hs, .cons ⟨upd_same, .cons ⟨upd_oth (fun z => n1' (z ▸ qm)) hl.1, upd_oth (fun z => n3' (z ▸ qm)) hl.2⟩ (h2.imp fun m y hm hy => ⟨upd_oth (fun z => k1 ?_) hy.1, upd_oth (fun z => im m.2 ?_ (z ▸ qm)) hy.2⟩)⟩ (all_keep hq fun b u hb e => upd_oth (fun z => ?_) e), ?_, ?_⟩
    · rw [← z]
      exact List.mem_append_left _ (List.mem_map_of_mem hm)
    · exact List.mem_append_left _ (List.mem_map_of_mem hm)
    · rcases hb with hb | hb
      · exact k1 (z ▸ List.mem_append_right _ hb)
      · exact im b (List.mem_append_right _ hb) (z ▸ qm)
    · show (p :: so :: qa :: l.1 :: (lv.map (·.1) ++ Ls.flatMap mutsT)).Nodup
      simp only [List.mem_cons, not_or] at n1'
      simp only [List.nodup_cons, List.mem_cons, not_or] at nd ⊢
      obtain ⟨⟨a1, a2, a3⟩, ⟨b1, b2⟩, c1, d1⟩ := nd
      exact ⟨⟨a1, a2, Ne.symm n1'.1, a3⟩, ⟨b1, Ne.symm n1'.2.1, b2⟩, ⟨Ne.symm n1'.2.2.1, c1⟩, n1'.2.2.2, d1⟩
    · intro r hr z
      have hr : r ∈ l.2 :: (lv.map (·.2) ++ imms Ls) := hr
      have z : r ∈ p :: so :: qa :: l.1 :: (lv.map (·.1) ++ Ls.flatMap mutsT) := z
      have key : r = l.1 ∨ r ∈ p :: so :: qa :: (lv.map (·.1) ++ Ls.flatMap mutsT) := by
        simp only [List.mem_cons] at z ⊢
        rcases z with z | z | z | z | z
        · exact .inr (.inl z)
        · exact .inr (.inr (.inl z))
        · exact .inr (.inr (.inr (.inl z)))
        · exact .inl z
        · exact .inr (.inr (.inr (.inr z)))
      rcases List.mem_cons.mp hr with rfl | hr
      · rcases key with k | k
        · exact n4 k.symm
        · exact n3' k
      · rcases key with k | k
        · exact n2' (k ▸ hr)
        · exact im r hr k
/-- a level less -/
theorem M7.popL {qa : Addr} {lv : List LvA} {l : LvA} {x : Lvl} (h : M7 H p so ((qa, l :: lv) :: Ls) ((x :: ls) :: stk) ss) : M7 (upd H qa (.lst (rv lvV lv))) p so ((qa, lv) :: Ls) (ls :: stk) ss := by
  have nd : (p :: so :: qa :: l.1 :: (lv.map (·.1) ++ Ls.flatMap mutsT)).Nodup := h.nd
  obtain ⟨m1, m2, m3, m4⟩ := nd3 nd
  obtain ⟨k1, k2⟩ := List.nodup_cons.mp m4
  obtain ⟨k3, k4⟩ := List.nodup_cons.mp k2
  have im : ∀ r ∈ l.2 :: (lv.map (·.2) ++ imms Ls), r ∉ p :: so :: qa :: l.1 :: (lv.map (·.1) ++ Ls.flatMap mutsT) := h.im
  have qm : qa ∈ p :: so :: qa :: l.1 :: (lv.map (·.1) ++ Ls.flatMap mutsT) := by simp
  have hq := h.hq
  cases hq with
  | cons h1 hq =>
    obtain ⟨h1, h2⟩ := h1
    cases h2 with
    | cons h3 h4 =>
      refine ⟨upd_oth (fun z => m2 (by rw [z]; simp)) h.hp, upd_oth (fun z => m3 (by rw [z]; simp)) h.hs, .cons ⟨upd_same, h4.imp fun m y hm hy => ⟨upd_oth (fun z => k1 ?_) hy.1, upd_oth (fun z => im m.2 ?_ (z ▸ qm)) hy.2⟩⟩ (all_keep hq fun b u hb e => upd_oth (fun z => ?_) e), ?_, ?_⟩
      · rw [← z]
        exact List.mem_cons_of_mem _ (List.mem_append_left _ (List.mem_map_of_mem hm))
      · exact List.mem_cons_of_mem _ (List.mem_append_left _ (List.mem_map_of_mem hm))
      · rcases hb with hb | hb
        · exact k1 (z ▸ List.mem_cons_of_mem _ (List.mem_append_right _ hb))
        · exact im b (List.mem_cons_of_mem _ (List.mem_append_right _ hb)) (z ▸ qm)
      · show (p :: so :: qa :: (lv.map (·.1) ++ Ls.flatMap mutsT)).Nodup
        simp only [List.nodup_cons, List.mem_cons, not_or] at nd ⊢
        obtain ⟨⟨a1, a2, a3, a4⟩, ⟨b1, b2, b3⟩, ⟨c1, c2⟩, d1, d2⟩ := nd
        exact ⟨⟨a1, a2, a4⟩, ⟨b1, b3⟩, c2, d2⟩
      · intro r hr z
        refine im r (List.mem_cons_of_mem _ hr) ?_
        have z : r ∈ p :: so :: qa :: (lv.map (·.1) ++ Ls.flatMap mutsT) := z
        simp only [List.mem_cons] at z ⊢
        rcases z with z | z | z | z
        · exact .inl z
        · exact .inr (.inl z)
        · exact .inr (.inr (.inl z))
        · exact .inr (.inr (.inr (.inr z)))
/-- what a step of the model leaves -/
structure F7 (H H' : Hp) (p so : Addr) (Ls Ls' : List TxA) : Prop where
  kp : Kp (fun b => b ∈ muts p so Ls) H H'
  mf : ∀ b, b ∈ muts p so Ls' ∨ b ∈ imms Ls' → (b ∈ muts p so Ls ∨ b ∈ imms Ls) ∨ H b = none
  mm : ∀ b, b ∈ muts p so Ls' → b ∈ muts p so Ls ∨ H b = none
theorem F7.refl {Ls : List TxA} : F7 H H p so Ls Ls := ⟨Kp.refl, fun _ h => .inl h, fun _ h => .inl h⟩
theorem F7.same {Ls : List TxA} (k : Same H H') : F7 H H' p so Ls Ls := ⟨.of_same k, fun _ h => .inl h, fun _ h => .inl h⟩
theorem F7.trans {H2 : Hp} {L1 L2 L3 : List TxA} (a : F7 H H' p so L1 L2) (b : F7 H' H2 p so L2 L3) : F7 H H2 p so L1 L3 := by
  have back : ∀ c, H' c = none → (c ∈ muts p so L1) ∨ H c = none := fun c z => by
    cases e : H c with
    | none => exact .inr rfl
    | some u =>
      by_cases hm : c ∈ muts p so L1
      · exact .inl hm
      · rw [a.kp c u e hm] at z; cases z
  refine ⟨fun c u h n => ?_, fun c h => ?_, fun c h => ?_⟩
  · refine b.kp c u (a.kp c u h n) fun z => ?_
    rcases a.mm c z with z | z
    · exact n z
    · rw [z] at h; cases h
  · rcases b.mf c h with z | z
    · exact a.mf c z
    · exact (back c z).imp .inl id
  · rcases b.mm c h with z | z
    · exact a.mm c z
    · exact back c z
theorem F7.set {Ls : List TxA} {b : Addr} {o : HO} (m : b ∈ muts p so Ls) : F7 H (upd H b o) p so Ls Ls := ⟨Kp.refl.set m, fun _ h => .inl h, fun _ h => .inl h⟩
theorem F7.new {L1 L2 : List TxA} {b : Addr} {o : HO} (a : F7 H H' p so L1 L2) (h : H' b = none) : F7 H (upd H' b o) p so L1 L2 := ⟨a.kp.new h, a.mf, a.mm⟩
/-- the layout changes where H allows it -/
theorem F7.lay {L1 L2 L3 : List TxA} (a : F7 H H' p so L1 L2) (h1 : ∀ b, b ∈ muts p so L3 → b ∈ muts p so L2 ∨ H b = none) (h2 : ∀ b, b ∈ imms L3 → (b ∈ muts p so L2 ∨ b ∈ imms L2) ∨ H b = none) : F7 H H' p so L1 L3 := by
  refine ⟨a.kp, fun b hb => ?_, fun b hb => ?_⟩
  · rcases hb with hb | hb
    · rcases h1 b hb with z | z
      · exact a.mf b (.inl z)
      · exact .inr z
    · rcases h2 b hb with z | z
      · exact a.mf b z
      · exact .inr z
  · rcases h1 b hb with z | z
    · exact a.mm b z
    · exact .inr z
theorem mem_muts {b : Addr} {Ls : List TxA} : b ∈ muts p so (q :: Ls) ↔ b ∈ mutsT q ∨ b ∈ muts p so Ls := by
  show b ∈ p :: so :: (mutsT q ++ Ls.flatMap mutsT) ↔ b ∈ mutsT q ∨ b ∈ p :: so :: Ls.flatMap mutsT
  simp only [List.mem_cons, List.mem_append]
  constructor
  · rintro (h | h | h | h)
    · exact .inr (.inl h)
    · exact .inr (.inr (.inl h))
    · exact .inl h
    · exact .inr (.inr (.inr h))
  · rintro (h | h | h | h)
    · exact .inr (.inr (.inl h))
    · exact .inl h
    · exact .inr (.inl h)
    · exact .inr (.inr (.inr h))
theorem mem_imms {b : Addr} {Ls : List TxA} : b ∈ imms (q :: Ls) ↔ b ∈ immT q ∨ b ∈ imms Ls := List.mem_append
end
/-- the whole state of the law -/
structure K7 (a : Ad) (H0 : Hp) (pp x p so : Addr) (H : Hp) (L : Lay) (D : Db) (Ls : List TxA) (stk : List (List Lvl)) (ss : List Str) (c : Nat) : Prop where
  same : Same H0 H
  pool : ∃ o, H pp = some o ∧ PoolO o c
  dat : DB a H L D
  ed : L.db = x
  mat : M7 H p so Ls stk ss
  fre : ∀ b, (b = pp ∨ Mut L b ∨ b ∈ muts p so Ls ∨ b ∈ imms Ls) → H0 b = none
  d1 : ∀ b, (b ∈ muts p so Ls ∨ b ∈ imms Ls) → ¬ Mut L b ∧ b ≠ pp
  d2 : ¬ Mut L pp
section
variable {a : Ad} {H0 H H' : Hp} {pp x p so : Addr} {L : Lay} {D : Db} {Ls : List TxA} {stk : List (List Lvl)} {ss : List Str} {c : Nat}
theorem PoolO.notIns {o : HO} {c : Nat} (h : PoolO o c) {C dx : Addr} {fs : List (Str × V)} : o ≠ .ins C dx fs := by
  obtain ⟨x, y, z, e, _⟩ := h
  rw [e]
  exact fun z => by cases z
theorem DbAt.kpS {S : Addr → Prop} {aD aT aW : Addr} (h : DbAt aD aT aW H L D) (k : Kp S H H') (n : ∀ b, S b → ¬ Mut L b ∧ ∀ C dx fs, H b ≠ some (.ins C dx fs)) : DbAt aD aT aW H' L D := by
  refine h.keep fun b u f e => k b u e fun z => ?_
  rcases f with f | ⟨t, m, rfl⟩
  · exact (n b z).1 f
  · obtain ⟨x, h1, _⟩ := h.tx m
    exact (n _ z).2 _ _ _ h1
theorem K7.draw {o' : HO} {c' : Nat} (h : K7 a H0 pp x p so H L D Ls stk ss c) (k : Kp (fun b => b = pp) H H') (hp : H' pp = some o') (ho : PoolO o' c') : K7 a H0 pp x p so H' L D Ls stk ss c' := by
  obtain ⟨o, h1, h2⟩ := h.pool
  refine ⟨Kp.same h.same k fun b e => h.fre b (.inl e), ⟨o', hp, ho⟩, h.dat.kpS k fun b e => ⟨e ▸ h.d2, fun C dx fs z => ?_⟩, h.ed, h.mat.keep fun b u m e => k b u e (h.d1 b m).2, h.fre, h.d1, h.d2⟩
  rw [e, h1] at z
  exact h2.notIns (Option.some.inj z)
theorem K7.keep (h : K7 a H0 pp x p so H L D Ls stk ss c) (k : Same H H') : K7 a H0 pp x p so H' L D Ls stk ss c := by
  obtain ⟨o, h1, h2⟩ := h.pool
  exact ⟨h.same.trans k, ⟨o, k _ _ h1, h2⟩, h.dat.keep fun b u _ e => k b u e, h.ed, h.mat.same k, h.fre, h.d1, h.d2⟩
theorem K7.up {c' : Nat} (h : K7 a H0 pp x p so H L D Ls stk ss c) (k : c ≤ c') : K7 a H0 pp x p so H L D Ls stk ss c' := by
  obtain ⟨o, h1, h2⟩ := h.pool
  exact { h with pool := ⟨o, h1, h2.mono k⟩ }
theorem K7.db {L' : Lay} {D' : Db} (h : K7 a H0 pp x p so H L D Ls stk ss c) (hD : DB a H' L' D') (f : Fr H H' L L') : K7 a H0 pp x p so H' L' D' Ls stk ss c := by
  obtain ⟨o, h1, h2⟩ := h.pool
  refine ⟨fun b u e => f.kp b u (h.same b u e) fun z => ?_, ⟨o, f.kp _ _ h1 h.d2, h2⟩, hD, f.db.trans h.ed, h.mat.keep fun b u m e => f.kp b u e (h.d1 b m).1, fun b hb => ?_, fun b hb => ⟨?_, (h.d1 b hb).2⟩, f.out h1 h.d2⟩
  · rw [h.fre b (.inr (.inl z))] at e; cases e
  · rcases hb with hb | hb | hb
    · exact h.fre b (.inl hb)
    · rcases f.mt b hb with z | z
      · exact h.fre b (.inr (.inl z))
      · exact h.same.free z
    · exact h.fre b (.inr (.inr hb))
  · obtain ⟨xs, e⟩ := h.mat.there hb
    exact f.out e (h.d1 b hb).1
theorem K7.mdl {Ls' : List TxA} {stk' : List (List Lvl)} {ss' : List Str} (h : K7 a H0 pp x p so H L D Ls stk ss c) (hM : M7 H' p so Ls' stk' ss') (f : F7 H H' p so Ls Ls') : K7 a H0 pp x p so H' L D Ls' stk' ss' c := by
  obtain ⟨o, h1, h2⟩ := h.pool
  have npp : ¬ pp ∈ muts p so Ls := fun z => (h.d1 pp (.inl z)).2 rfl
  refine ⟨fun b u e => f.kp b u (h.same b u e) fun z => ?_, ⟨o, f.kp _ _ h1 npp, h2⟩, h.dat.kpS f.kp fun b hb => ⟨(h.d1 b (.inl hb)).1, fun C dx fs e => ?_⟩, h.ed, hM, fun b hb => ?_, fun b hb => ?_, h.d2⟩
  · rw [h.fre b (.inr (.inr (.inl z)))] at e; cases e
  · obtain ⟨xs, e2⟩ := h.mat.there (.inl hb)
    rw [e2] at e; cases e
  · rcases hb with hb | hb | hb
    · exact h.fre b (.inl hb)
    · exact h.fre b (.inr (.inl hb))
    · rcases f.mf b hb with z | z
      · exact h.fre b (.inr (.inr z))
      · exact h.same.free z
  · rcases f.mf b hb with z | z
    · exact h.d1 b z
    · refine ⟨h.dat.fresh z, fun e => ?_⟩
      rw [e, h1] at z; cases z
end
/-! ### plain: the model and the database go alike -/
def LvOk (rows : List Row) (n : Int) : List Lvl → Prop
  | [] => True
  | l :: r => (∀ z, z ∈ l.recs ↔ ∃ x ∈ rows, x.fate = "open" ∧ x.holder = n ∧ x.level = (r.length : Int) ∧ x.rcd = z) ∧ LvOk rows n r
def BdOk (rows : List Row) (n : Int) (k : Nat) : Prop := ∀ x ∈ rows, x.fate = "open" → x.holder = n → 0 ≤ x.level ∧ x.level < (k : Int)
def TR (rows : List Row) (t : Option Tx) (ls : List Lvl) : Prop := match t with
  | none => ls = []
  | some x => ls.map (·.rsn) = x.rs ∧ LvOk rows x.num ls ∧ BdOk rows x.num ls.length
def cat (ls : List Lvl) : List Str := (ls.reverse.map (·.recs)).flatten
theorem cat_mem {ls : List Lvl} {z : Str} : z ∈ cat ls ↔ ∃ l ∈ ls, z ∈ l.recs := by
  unfold cat
  rw [List.mem_flatten]
  constructor
  · rintro ⟨l, hl, hz⟩
    obtain ⟨m, hm, rfl⟩ := List.mem_map.mp hl
    exact ⟨m, List.mem_reverse.mp hm, hz⟩
  · rintro ⟨m, hm, hz⟩
    exact ⟨_, List.mem_map.mpr ⟨m, List.mem_reverse.mpr hm, rfl⟩, hz⟩
theorem LvOk.cat {rows : List Row} {n : Int} : ∀ {ls : List Lvl}, LvOk rows n ls → BdOk rows n ls.length → ∀ z, z ∈ Ic.cat ls ↔ ∃ x ∈ rows, x.fate = "open" ∧ x.holder = n ∧ x.rcd = z := by
  have go : ∀ {ls : List Lvl}, LvOk rows n ls → ∀ z, (∃ l ∈ ls, z ∈ l.recs) ↔ ∃ x ∈ rows, x.fate = "open" ∧ x.holder = n ∧ (0 ≤ x.level ∧ x.level < (ls.length : Int)) ∧ x.rcd = z := by
    intro ls
    induction ls with
    | nil =>
      intro _ z
      constructor
      · rintro ⟨l, hl, _⟩
        cases hl
      · rintro ⟨x, _, _, _, h, _⟩
        simp at h
        omega
    | cons l r ih =>
      intro h z
      have ih := ih h.2 z
      constructor
      · rintro ⟨m, hm, hz⟩
        rcases List.mem_cons.mp hm with rfl | hm
        · obtain ⟨x, h1, h2, h3, h4, h5⟩ := (h.1 z).mp hz
          exact ⟨x, h1, h2, h3, ⟨by omega, by rw [h4, List.length_cons]; omega⟩, h5⟩
        · obtain ⟨x, h1, h2, h3, h4, h5⟩ := ih.mp ⟨m, hm, hz⟩
          exact ⟨x, h1, h2, h3, ⟨h4.1, by rw [List.length_cons]; omega⟩, h5⟩
      · rintro ⟨x, h1, h2, h3, h4, h5⟩
        by_cases e : x.level = (r.length : Int)
        · exact ⟨l, List.mem_cons_self, (h.1 z).mpr ⟨x, h1, h2, h3, e, h5⟩⟩
        · rw [List.length_cons] at h4
          obtain ⟨m, hm, hz⟩ := ih.mpr ⟨x, h1, h2, h3, ⟨h4.1, by omega⟩, h5⟩
          exact ⟨m, List.mem_cons_of_mem _ hm, hz⟩
  intro ls h hb z
  rw [cat_mem, go h z]
  constructor
  · rintro ⟨x, h1, h2, h3, _, h5⟩
    exact ⟨x, h1, h2, h3, h5⟩
  · rintro ⟨x, h1, h2, h3, h5⟩
    exact ⟨x, h1, h2, h3, hb x h1 h2 h3, h5⟩
def recsM (ls : List Lvl) : List Str := sortT (setT (cat ls))
def outerM (stk : List (List Lvl)) : List Str := sortT (setT ((stk.tail.reverse.map recsM).flatten))
def totL (stk : List (List Lvl)) : Nat := (stk.map fun ls => (ls.map (·.recs.length)).sum).sum
structure A7 (D : Db) (stk : List (List Lvl)) (n : Nat) : Prop where
  wf : Wf D.entered D.stack
  fl : D.floor = 0
  e : D.entered.length ≤ n
  r : D.rows.length ≤ n
  tx : All2 (TR D.rows) D.stack stk
  lt : ∀ x, some x ∈ D.stack → x.num < D.opened
  dist : D.stack.Pairwise fun s t => ∀ x y, s = some x → t = some y → x.num ≠ y.num
  hl : ∀ r ∈ D.rows, r.holder < D.opened
  w : ∀ x, some x ∈ D.stack → ∀ z, some z ∈ x.rs → IsWord z
  wr : ∀ r ∈ D.rows, IsWord r.rcd
  wl : ∀ ls ∈ stk, ∀ l ∈ ls, ∀ z ∈ l.recs, IsWord z
  tot : totL stk ≤ n
  op : 0 ≤ D.opened
theorem Wf.len {es : List Str} {st : List (Option Tx)} (h : Wf es st) : st.length ≤ es.length + 1 ∧ ∀ x, some x ∈ st → x.rs.length ≤ es.length ∧ x.rs ≠ [] := by
  induction h with
  | nil => exact ⟨by simp, fun x m => by simp at m⟩
  | plain h ih =>
    obtain ⟨i1, i2⟩ := ih
    simp only [List.length_cons] at *
    exact ⟨by omega, fun x m => ⟨Nat.le_succ_of_le (i2 x m).1, (i2 x m).2⟩⟩
  | base h ih =>
    obtain ⟨i1, i2⟩ := ih
    simp only [List.length_cons] at *
    refine ⟨by omega, fun x m => ?_⟩
    rcases List.mem_cons.mp m with m | m
    · cases m
      exact ⟨by simp, by simp⟩
    · exact ⟨Nat.le_succ_of_le (i2 x m).1, (i2 x m).2⟩
  | level h ih =>
    obtain ⟨i1, i2⟩ := ih
    simp only [List.length_cons] at *
    refine ⟨by omega, fun x m => ?_⟩
    rcases List.mem_cons.mp m with m | m
    · cases m
      have := (i2 _ List.mem_cons_self).1
      simp only [List.length_cons] at *
      exact ⟨by omega, by simp⟩
    · have := i2 x (List.mem_cons_of_mem _ m)
      exact ⟨Nat.le_succ_of_le this.1, this.2⟩
  | joined h ih =>
    obtain ⟨i1, i2⟩ := ih
    simp only [List.length_cons] at *
    exact ⟨by omega, fun x m => ⟨Nat.le_succ_of_le (i2 x m).1, (i2 x m).2⟩⟩
  | outside h ih =>
    obtain ⟨i1, i2⟩ := ih
    simp only [List.length_cons] at *
    refine ⟨by omega, fun x m => ?_⟩
    rcases List.mem_cons.mp m with m | m
    · cases m
    · exact ⟨Nat.le_succ_of_le (i2 x m).1, (i2 x m).2⟩
theorem Wf.top {es : List Str} {st : List (Option Tx)} {n : Int} {y z : Option Str} {rs : List (Option Str)} (h : Wf es (some ⟨n, y :: rs⟩ :: st)) : Wf es (some ⟨n, z :: rs⟩ :: st) := by
  generalize e : (some ⟨n, y :: rs⟩ :: st : List (Option Tx)) = q at h
  induction h with
  | nil => cases e
  | plain h ih => cases e
  | base h ih =>
    cases e
    exact .base h
  | level h ih =>
    cases e
    exact .level h
  | joined h ih =>
    cases e
    exact .joined (ih rfl)
  | outside h ih => cases e
section
variable {D : Db} {stk : List (List Lvl)} {n : Nat}
theorem A7.sm (g : A7 D stk n) (h : n ≤ 3000) : Sm D := by
  have := g.e
  have := g.r
  obtain ⟨h1, h2⟩ := g.wf.len
  exact ⟨by omega, by omega, fun x m => by have := (h2 x m).1; omega, by omega⟩
theorem A7.up {m : Nat} (g : A7 D stk n) (h : n ≤ m) : A7 D stk m := { g with e := Nat.le_trans g.e h, r := Nat.le_trans g.r h, tot := Nat.le_trans g.tot h }
/-- what the present transaction holds, what the others hold -/
theorem A7.held (g : A7 D stk n) : ∃ ls rest, stk = ls :: rest ∧ ownL D = recsM ls ∧ outerL D = outerM stk := by
  have tx := g.tx
  have ne := g.wf.ne
  have key : ∀ {st : List (Option Tx)} {sk : List (List Lvl)}, All2 (TR D.rows) st sk → ∀ z, (∃ x ∈ D.rows, x.fate = "open" ∧ x.holder ∈ numsR st ∧ x.rcd = z) ↔ ∃ ls ∈ sk, z ∈ cat ls := by
    intro st sk h z
    have nm : ∀ i : Int, i ∈ numsR st ↔ ∃ x, some x ∈ st ∧ x.num = i := fun i => by
      unfold numsR
      rw [List.mem_filterMap]
      constructor
      · rintro ⟨t, ht, e⟩
        cases t with
        | none => cases e
        | some x =>
          cases e
          exact ⟨x, List.mem_reverse.mp ht, rfl⟩
      · rintro ⟨x, hx, rfl⟩
        exact ⟨some x, List.mem_reverse.mpr hx, rfl⟩
    constructor
    · rintro ⟨x, h1, h2, h3, h4⟩
      obtain ⟨t, ht, e⟩ := (nm _).mp h3
      obtain ⟨ls, hls, _, l2, l3⟩ := h.mem ht
      exact ⟨ls, hls, (l2.cat l3 z).mpr ⟨x, h1, h2, e.symm, h4⟩⟩
    · rintro ⟨ls, hls, hz⟩
      clear nm
      induction h with
      | nil => cases hls
      | @cons t l st sk r _ ih =>
        rcases List.mem_cons.mp hls with rfl | hls
        · cases t with
          | none =>
            have : ls = [] := r
            subst this
            simp [cat] at hz
          | some t =>
            obtain ⟨_, l2, l3⟩ := r
            obtain ⟨x, h1, h2, h3, h4⟩ := (l2.cat l3 z).mp hz
            refine ⟨x, h1, h2, ?_, h4⟩
            unfold numsR
            rw [List.mem_filterMap]
            exact ⟨some t, List.mem_reverse.mpr List.mem_cons_self, by rw [h3]; rfl⟩
        · obtain ⟨x, h1, h2, h3, h4⟩ := ih hls
          refine ⟨x, h1, h2, ?_, h4⟩
          unfold numsR at h3 ⊢
          rw [List.mem_filterMap] at h3 ⊢
          obtain ⟨t', ht', e⟩ := h3
          exact ⟨t', List.mem_reverse.mpr (List.mem_cons_of_mem _ (List.mem_reverse.mp ht')), e⟩
  have hD : ∃ t st, D.stack = t :: st := by
    cases e : D.stack with
    | nil => exact absurd e ne
    | cons t st => exact ⟨t, st, rfl⟩
  obtain ⟨t, st, es⟩ := hD
  rw [es] at tx
  cases tx with
  | @cons _ ls _ rest r tl =>
    refine ⟨ls, rest, rfl, ?_, ?_⟩
    · unfold ownL recsM
      rw [es]
      refine sortT_congr (nd_perm held_nd setT_nd fun z => ?_)
      rw [held_mem, setT_mem]
      have := key (.cons r .nil) z
      simpa using this
    · unfold outerL outerM
      rw [es]
      refine sortT_congr (nd_perm held_nd setT_nd fun z => ?_)
      rw [held_mem, setT_mem]
      have h1 := key tl z
      show _ ↔ z ∈ (rest.reverse.map recsM).flatten
      rw [show (t :: st).tail = st from rfl, h1, List.mem_flatten]
      constructor
      · rintro ⟨m, hm, hz⟩
        refine ⟨recsM m, List.mem_map.mpr ⟨m, List.mem_reverse.mpr hm, rfl⟩, ?_⟩
        unfold recsM
        rw [sortT_mem, setT_mem]
        exact hz
      · rintro ⟨l, hl, hz⟩
        obtain ⟨m, hm, rfl⟩ := List.mem_map.mp hl
        unfold recsM at hz
        rw [sortT_mem, setT_mem] at hz
        exact ⟨m, List.mem_reverse.mp hm, hz⟩
end
/-! ### plain: the steps -/
section
variable {D : Db} {stk : List (List Lvl)} {n : Nat}
theorem A7.top (g : A7 D stk n) : (∃ st rest, D.stack = none :: st ∧ stk = [] :: rest) ∨ ∃ k y rs st l ls rest, D.stack = some ⟨k, y :: rs⟩ :: st ∧ stk = (l :: ls) :: rest ∧ l.rsn = y ∧ ls.map (·.rsn) = rs := by
  have tx := g.tx
  have ne := g.wf.ne
  obtain ⟨_, l2⟩ := g.wf.len
  generalize D.stack = s at tx ne l2
  cases tx with
  | nil => exact absurd rfl ne
  | @cons t l st sk r tl =>
    cases t with
    | none =>
      cases (show l = [] from r)
      exact .inl ⟨_, _, rfl, rfl⟩
    | some x =>
      obtain ⟨k, rs⟩ := x
      obtain ⟨h1, _, _⟩ := r
      dsimp only at h1
      cases l with
      | nil => exact absurd h1.symm (l2 _ List.mem_cons_self).2
      | cons l ls =>
        rw [List.map_cons] at h1
        subst h1
        exact .inr ⟨_, _, _, _, _, _, _, rfl, rfl, rfl, rfl⟩
/-- a block that changes nothing -/
theorem A7.ent {es : List Str} (g : A7 D stk n) (h : Wf es D.stack) (hl : es.length ≤ n + 1) : A7 { D with entered := es } stk (n + 1) :=
  ⟨h, g.fl, hl, Nat.le_succ_of_le g.r, g.tx, g.lt, g.dist, g.hl, g.w, g.wr, g.wl, Nat.le_succ_of_le g.tot, g.op⟩
theorem A7.plain (g : A7 D stk n) {z : Str} (h : Wf (z :: D.entered) D.stack) : A7 (plainD D z) stk (n + 1) := g.ent h (Nat.succ_le_succ g.e)
theorem A7.begin (g : A7 D stk n) : A7 (beginD D) ([⟨none, []⟩] :: stk) (n + 1) := by
  refine ⟨.base g.wf, g.fl, Nat.succ_le_succ g.e, Nat.le_succ_of_le g.r, .cons ⟨rfl, ⟨fun z => ?_, trivial⟩, fun x hx _ e => ?_⟩ g.tx, fun x hx => ?_, ?_, fun r hr => ?_, fun x hx z hz => ?_, g.wr, fun ls hls => ?_, ?_, ?_⟩
  · constructor
    · intro h
      cases h
    · rintro ⟨x, hx, _, e, _⟩
      have := g.hl x hx
      have e : x.holder = D.opened := e
      omega
  · have := g.hl x hx
    have e : x.holder = D.opened := e
    omega
  · show x.num < D.opened + 1
    rcases List.mem_cons.mp hx with e | e
    · cases e
      show D.opened < D.opened + 1
      omega
    · have := g.lt x e
      omega
  · refine List.pairwise_cons.mpr ⟨fun t ht x y e1 e2 => ?_, g.dist⟩
    cases e1
    subst e2
    have := g.lt y ht
    exact fun z => by
      have z : D.opened = y.num := z
      omega
  · have := g.hl r hr
    show r.holder < D.opened + 1
    omega
  · rcases List.mem_cons.mp hx with e | e
    · cases e
      simp at hz
    · exact g.w x e z hz
  · rcases List.mem_cons.mp hls with rfl | hls
    · intro l hl z hz
      rcases List.mem_singleton.mp hl with rfl
      cases hz
    · exact g.wl ls hls
  · show 0 + 0 + totL stk ≤ n + 1
    have := g.tot
    omega
  · have := g.op
    show 0 ≤ D.opened + 1
    omega
theorem A7.addLevel {k : Int} {rs : List (Option Str)} {st : List (Option Tx)} {l : Lvl} {ls : List Lvl} {rest : List (List Lvl)} (g : A7 D stk n) (e1 : D.stack = some ⟨k, none :: rs⟩ :: st) (e2 : stk = (l :: ls) :: rest) :
    A7 (plainD { D with stack := some ⟨k, none :: none :: rs⟩ :: st } "level") ((⟨none, []⟩ :: l :: ls) :: rest) (n + 1) := by
  have tx := g.tx
  have wf := g.wf
  have lt := g.lt
  have di := g.dist
  have w := g.w
  have wl := g.wl
  have tt := g.tot
  rw [e1] at tx wf lt di w
  rw [e2] at tx wl tt
  cases tx with
  | cons r tl =>
    obtain ⟨h1, h2, h3⟩ := r
    refine ⟨.level wf, g.fl, Nat.succ_le_succ g.e, Nat.le_succ_of_le g.r, .cons ⟨by rw [List.map_cons, h1], ⟨fun z => ?_, h2⟩, fun x hx a b => ?_⟩ tl, fun x hx => ?_, ?_, g.hl, fun x hx z hz => ?_, g.wr, fun m hm => ?_, ?_, g.op⟩
    · constructor
      · intro h
        cases h
      · rintro ⟨x, hx, a, b, c, _⟩
        have := (h3 x hx a b).2
        have c : x.level = ((l :: ls).length : Int) := c
        omega
    · have := h3 x hx a b
      refine ⟨this.1, ?_⟩
      have t2 := this.2
      rw [List.length_cons]
      omega
    · rcases List.mem_cons.mp hx with e | e
      · cases e
        exact lt ⟨k, none :: rs⟩ List.mem_cons_self
      · exact lt x (List.mem_cons_of_mem _ e)
    · obtain ⟨d1, d2⟩ := List.pairwise_cons.mp di
      refine List.pairwise_cons.mpr ⟨fun t ht x y a b => ?_, d2⟩
      cases a
      exact d1 t ht ⟨k, none :: rs⟩ y rfl b
    · rcases List.mem_cons.mp hx with e | e
      · cases e
        rcases List.mem_cons.mp hz with e | e
        · cases e
        · exact w _ List.mem_cons_self z e
      · exact w x (List.mem_cons_of_mem _ e) z hz
    · rcases List.mem_cons.mp hm with rfl | hm
      · intro y hy z hz
        rcases List.mem_cons.mp hy with rfl | hy
        · cases hz
        · exact wl _ List.mem_cons_self y hy z hz
      · exact wl m (List.mem_cons_of_mem _ hm)
    · have e : totL ((⟨none, []⟩ :: l :: ls) :: rest) = totL ((l :: ls) :: rest) := by
        show (0 + ((l :: ls).map (·.recs.length)).sum) + _ = ((l :: ls).map (·.recs.length)).sum + _
        omega
      rw [e]
      omega
theorem A7.outside {x : Tx} {st : List (Option Tx)} (g : A7 D stk n) (e1 : D.stack = some x :: st) : A7 (plainD { D with stack := none :: D.stack } "outside") ([] :: stk) (n + 1) := by
  have wf := g.wf
  rw [e1] at wf
  refine ⟨?_, g.fl, Nat.succ_le_succ g.e, Nat.le_succ_of_le g.r, .cons rfl g.tx, fun y hy => ?_, List.pairwise_cons.mpr ⟨(fun t ht x y a => nomatch a), g.dist⟩, g.hl, fun y hy => ?_, g.wr, fun m hm => ?_, ?_, g.op⟩
  · show Wf _ (none :: D.stack)
    rw [e1]
    exact .outside wf
  · rcases List.mem_cons.mp hy with e | e
    · cases e
    · exact g.lt y e
  · rcases List.mem_cons.mp hy with e | e
    · cases e
    · exact g.w y e
  · rcases List.mem_cons.mp hm with rfl | hm
    · exact fun l hl => by cases hl
    · exact g.wl m hm
  · show 0 + totL stk ≤ n + 1
    have := g.tot
    omega
/-- the top level's reason -/
theorem A7.rsn {k : Int} {y y' : Option Str} {rs : List (Option Str)} {st : List (Option Tx)} {l : Lvl} {ls : List Lvl} {rest : List (List Lvl)} {es : List Str} (g : A7 D stk n) (e1 : D.stack = some ⟨k, y :: rs⟩ :: st) (e2 : stk = (l :: ls) :: rest) (hy : ∀ z, y' = some z → IsWord z) (hw : Wf es (some ⟨k, y :: rs⟩ :: st)) (he : es.length ≤ n) :
    A7 { D with stack := some ⟨k, y' :: rs⟩ :: st, entered := es } ((⟨y', l.recs⟩ :: ls) :: rest) n := by
  have tx := g.tx
  have lt := g.lt
  have di := g.dist
  have w := g.w
  have wl := g.wl
  have tt := g.tot
  rw [e1] at tx lt di w
  rw [e2] at tx wl tt
  cases tx with
  | cons r tl =>
    obtain ⟨h1, h2, h3⟩ := r
    rw [List.map_cons] at h1
    refine ⟨hw.top, g.fl, he, g.r, .cons ⟨by rw [List.map_cons, (List.cons.inj h1).2], h2, h3⟩ tl, fun x hx => ?_, ?_, g.hl, fun x hx z hz => ?_, g.wr, fun m hm => ?_, tt, g.op⟩
    · rcases List.mem_cons.mp hx with e | e
      · cases e
        exact lt ⟨k, y :: rs⟩ List.mem_cons_self
      · exact lt x (List.mem_cons_of_mem _ e)
    · obtain ⟨d1, d2⟩ := List.pairwise_cons.mp di
      refine List.pairwise_cons.mpr ⟨fun t ht x u a b => ?_, d2⟩
      cases a
      exact d1 t ht ⟨k, y :: rs⟩ u rfl b
    · rcases List.mem_cons.mp hx with e | e
      · cases e
        rcases List.mem_cons.mp hz with e | e
        · exact hy z e.symm
        · exact w _ List.mem_cons_self z (List.mem_cons_of_mem _ e)
      · exact w x (List.mem_cons_of_mem _ e) z hz
    · rcases List.mem_cons.mp hm with rfl | hm
      · intro u hu z hz
        rcases List.mem_cons.mp hu with rfl | hu
        · exact wl _ List.mem_cons_self l List.mem_cons_self z hz
        · exact wl _ List.mem_cons_self u (List.mem_cons_of_mem _ hu) z hz
      · exact wl m (List.mem_cons_of_mem _ hm)
/-- other rows that are not open, or of no transaction here -/
theorem TR.rows {rows rows' : List Row} {t : Option Tx} {ls : List Lvl} (h : TR rows t ls) (k : ∀ x, t = some x → ∀ P : Row → Prop, (∃ r ∈ rows, r.fate = "open" ∧ r.holder = x.num ∧ P r) ↔ ∃ r ∈ rows', r.fate = "open" ∧ r.holder = x.num ∧ P r) : TR rows' t ls := by
  cases t with
  | none => exact h
  | some x =>
    obtain ⟨h1, h2, h3⟩ := h
    have k := k x rfl
    refine ⟨h1, ?_, fun r hr a b => ?_⟩
    · clear h1 h3
      induction ls with
      | nil => trivial
      | cons l r ih => exact ⟨fun z => (h2.1 z).trans (k fun y => y.level = (r.length : Int) ∧ y.rcd = z), ih h2.2⟩
    · obtain ⟨r', hr', a', b', c⟩ := (k fun y => y.level = r.level).mpr ⟨r, hr, a, b, rfl⟩
      have := h3 r' hr' a' b'
      rw [c] at this
      exact this
theorem map_iff {rows : List Row} {f : Row → Row} {m : Int} (h1 : ∀ r ∈ rows, r.holder = m → f r = r) (h2 : ∀ r, (f r).holder = r.holder) (P : Row → Prop) : (∃ r ∈ rows, r.fate = "open" ∧ r.holder = m ∧ P r) ↔ ∃ r ∈ rows.map f, r.fate = "open" ∧ r.holder = m ∧ P r := by
  constructor
  · rintro ⟨r, hr, a, b, c⟩
    exact ⟨r, List.mem_map.mpr ⟨r, hr, h1 r hr b⟩, a, b, c⟩
  · rintro ⟨r, hr, a, b, c⟩
    obtain ⟨r', hr', rfl⟩ := List.mem_map.mp hr
    rw [h2] at b
    have e := h1 r' hr' b
    rw [e] at a c
    exact ⟨r', hr', a, b, c⟩
theorem endT_holder {m : Int} {f : Str} (r : Row) : (endTRow m f r).holder = r.holder ∧ (endTRow m f r).rcd = r.rcd := by
  unfold endTRow
  split <;> exact ⟨rfl, rfl⟩
theorem endL_holder {m t : Int} {ok : Bool} (r : Row) : (endLRow m t ok r).holder = r.holder ∧ (endLRow m t ok r).rcd = r.rcd := by
  unfold endLRow
  split
  · split <;> exact ⟨rfl, rfl⟩
  · exact ⟨rfl, rfl⟩
/-- the base is left -/
theorem A7.endT {k : Int} {y : Option Str} {st : List (Option Tx)} {ls : List Lvl} {rest : List (List Lvl)} {es : List Str} {f : Str} (g : A7 D stk n) (e1 : D.stack = some ⟨k, [y]⟩ :: st) (e2 : stk = ls :: rest) (hw : Wf es st) (he : es.length ≤ n) :
    A7 { D with stack := st, entered := es, rows := D.rows.map (endTRow k f) } rest n := by
  have tx := g.tx
  have lt := g.lt
  have di := g.dist
  have w := g.w
  have wl := g.wl
  have tt := g.tot
  rw [e1] at tx lt di w
  rw [e2] at tx wl tt
  obtain ⟨d1, d2⟩ := List.pairwise_cons.mp di
  cases tx with
  | cons r tl =>
    refine ⟨hw, g.fl, he, by rw [List.length_map]; exact g.r, tl.imp fun t m ht h => h.rows fun x ex P => ?_, fun x hx => lt x (List.mem_cons_of_mem _ hx), d2, fun r hr => ?_, fun x hx => w x (List.mem_cons_of_mem _ hx), fun r hr => ?_, fun m hm => wl m (List.mem_cons_of_mem _ hm), ?_, g.op⟩
    · subst ex
      refine map_iff (fun r _ hr => if_neg fun c => ?_) (fun r => (endT_holder r).1) P
      exact d1 _ ht ⟨k, [y]⟩ x rfl rfl (c.2.symm.trans hr)
    · obtain ⟨r', hr', rfl⟩ := List.mem_map.mp hr
      rw [(endT_holder r').1]
      exact g.hl r' hr'
    · obtain ⟨r', hr', rfl⟩ := List.mem_map.mp hr
      rw [(endT_holder r').2]
      exact g.wr r' hr'
    · have : totL (ls :: rest) = (ls.map (·.recs.length)).sum + totL rest := rfl
      omega
/-- a level is left -/
theorem A7.endL {k : Int} {y z : Option Str} {rs : List (Option Str)} {st : List (Option Tx)} {l m : Lvl} {ls : List Lvl} {rest : List (List Lvl)} {es : List Str} {ok : Bool} (g : A7 D stk n) (e1 : D.stack = some ⟨k, y :: z :: rs⟩ :: st) (e2 : stk = (l :: m :: ls) :: rest) (hw : Wf es (some ⟨k, z :: rs⟩ :: st)) (he : es.length ≤ n) :
    A7 { D with stack := some ⟨k, z :: rs⟩ :: st, entered := es, rows := D.rows.map (endLRow k ((z :: rs).length : Int) ok) } (((if ok = true then ⟨m.rsn, m.recs ++ l.recs⟩ else m) :: ls) :: rest) n := by
  have tx := g.tx
  have lt := g.lt
  have di := g.dist
  have w := g.w
  have wl := g.wl
  have tt := g.tot
  rw [e1] at tx lt di w
  rw [e2] at tx wl tt
  obtain ⟨d1, d2⟩ := List.pairwise_cons.mp di
  cases tx with
  | cons r tl =>
    obtain ⟨h1, h2, h3⟩ := r
    dsimp only at h1
    rw [List.map_cons, List.map_cons] at h1
    obtain ⟨q1, q2⟩ := List.cons.inj h1
    obtain ⟨q3, q4⟩ := List.cons.inj q2
    have hlen : ls.length = rs.length := by rw [← q4, List.length_map]
    obtain ⟨v1, v2, v3⟩ := h2
    have wlm := wl _ List.mem_cons_self
    refine ⟨hw, g.fl, he, by rw [List.length_map]; exact g.r, .cons ⟨?_, ⟨fun u => ?_, ?_⟩, fun r hr a b => ?_⟩ (tl.imp fun t m ht h => h.rows fun x ex P => ?_), fun x hx => ?_, ?_, fun r hr => ?_, fun x hx u hu => ?_, fun r hr => ?_, fun p hp => ?_, ?_, g.op⟩
    · rw [List.map_cons, ← q3, ← q4]
      cases ok <;> rfl
    · -- the level below
      have lo : ((m :: ls).length : Int) = (ls.length : Int) + 1 := by rw [List.length_cons]; omega
      have hz : ((z :: rs).length : Int) = (ls.length : Int) + 1 := by rw [List.length_cons, hlen]; omega
      constructor
      · intro hu
        cases ok with
        | true =>
          rcases List.mem_append.mp (show u ∈ m.recs ++ l.recs from hu) with hu | hu
          · obtain ⟨x, hx, a, b, c, e⟩ := (v2 u).mp hu
            refine ⟨x, List.mem_map.mpr ⟨x, hx, if_neg fun q => ?_⟩, a, b, c, e⟩
            have q := q.2.2
            omega
          · obtain ⟨x, hx, a, b, c, e⟩ := (v1 u).mp hu
            refine ⟨{ x with level := ((z :: rs).length : Int) - 1 }, List.mem_map.mpr ⟨x, hx, ?_⟩, a, b, ?_, e⟩
            · unfold endLRow
              rw [if_pos ⟨a, b, by rw [c, hz, lo]⟩, if_pos rfl]
            · show ((z :: rs).length : Int) - 1 = (ls.length : Int)
              omega
        | false =>
          obtain ⟨x, hx, a, b, c, e⟩ := (v2 u).mp hu
          refine ⟨x, List.mem_map.mpr ⟨x, hx, if_neg fun q => ?_⟩, a, b, c, e⟩
          have q := q.2.2
          omega
      · rintro ⟨x, hx, a, b, c, e⟩
        obtain ⟨x', hx', rfl⟩ := List.mem_map.mp hx
        unfold endLRow at a b c e
        by_cases q : x'.fate = "open" ∧ x'.holder = k ∧ x'.level = ((z :: rs).length : Int)
        · rw [if_pos q] at a b c e
          cases ok with
          | true =>
            rw [if_pos rfl] at e
            exact List.mem_append_right _ ((v1 u).mpr ⟨x', hx', q.1, q.2.1, by rw [q.2.2, hz, lo], e⟩)
          | false =>
            rw [if_neg (by simp)] at a
            exact absurd (show ("undone" : Str) = "open" from a) (by decide +kernel)
        · rw [if_neg q] at a b c e
          have hu : u ∈ m.recs := (v2 u).mpr ⟨x', hx', a, b, c, e⟩
          cases ok with
          | true => exact List.mem_append_left _ hu
          | false => exact hu
    · -- the levels below
      have gen : ∀ {ms : List Lvl}, ms.length ≤ ls.length → LvOk D.rows k ms → LvOk (D.rows.map (endLRow k ((z :: rs).length : Int) ok)) k ms := by
        intro ms
        induction ms with
        | nil => exact fun _ _ => trivial
        | cons a ms ih =>
          intro hl h
          rw [List.length_cons] at hl
          refine ⟨fun u => ?_, ih (by omega) h.2⟩
          rw [h.1 u]
          constructor
          · rintro ⟨x, hx, a, b, c, e⟩
            refine ⟨x, List.mem_map.mpr ⟨x, hx, if_neg fun q => ?_⟩, a, b, c, e⟩
            have q := q.2.2
            rw [List.length_cons] at q
            omega
          · rintro ⟨x, hx, a, b, c, e⟩
            obtain ⟨x', hx', rfl⟩ := List.mem_map.mp hx
            unfold endLRow at a b c e
            by_cases q : x'.fate = "open" ∧ x'.holder = k ∧ x'.level = ((z :: rs).length : Int)
            · rw [if_pos q] at a b c e
              cases ok with
              | true =>
                rw [if_pos rfl] at c
                have c : ((z :: rs).length : Int) - 1 = (ms.length : Int) := c
                rw [List.length_cons] at c
                omega
              | false =>
                rw [if_neg (by simp)] at a
                exact absurd (show ("undone" : Str) = "open" from a) (by decide +kernel)
            · rw [if_neg q] at a b c e
              exact ⟨x', hx', a, b, c, e⟩
      exact gen (Nat.le_refl _) v3
    · obtain ⟨x', hx', rfl⟩ := List.mem_map.mp hr
      unfold endLRow at a b ⊢
      have hz : ((z :: rs).length : Int) = (ls.length : Int) + 1 := by rw [List.length_cons, hlen]; omega
      by_cases q : x'.fate = "open" ∧ x'.holder = k ∧ x'.level = ((z :: rs).length : Int)
      · rw [if_pos q] at a b ⊢
        cases ok with
        | true =>
          rw [if_pos rfl]
          show 0 ≤ ((z :: rs).length : Int) - 1 ∧ ((z :: rs).length : Int) - 1 < ((ls.length + 1 : Nat) : Int)
          omega
        | false =>
          rw [if_neg (by simp)] at a
          exact absurd (show ("undone" : Str) = "open" from a) (by decide +kernel)
      · rw [if_neg q] at a b ⊢
        have t := h3 x' hx' a b
        have t2 := t.2
        rw [List.length_cons, List.length_cons] at t2
        refine ⟨t.1, ?_⟩
        rw [List.length_cons]
        have : ¬ x'.level = ((z :: rs).length : Int) := fun e => q ⟨a, b, e⟩
        omega
    · subst ex
      refine map_iff (fun r _ hr => if_neg fun c => ?_) (fun r => (endL_holder r).1) P
      exact d1 _ ht ⟨k, y :: z :: rs⟩ x rfl rfl (c.2.1.symm.trans hr)
    · rcases List.mem_cons.mp hx with e | e
      · cases e
        exact lt ⟨k, y :: z :: rs⟩ List.mem_cons_self
      · exact lt x (List.mem_cons_of_mem _ e)
    · refine List.pairwise_cons.mpr ⟨fun t ht x u a b => ?_, d2⟩
      cases a
      exact d1 t ht ⟨k, y :: z :: rs⟩ u rfl b
    · obtain ⟨r', hr', rfl⟩ := List.mem_map.mp hr
      rw [(endL_holder r').1]
      exact g.hl r' hr'
    · rcases List.mem_cons.mp hx with e | e
      · cases e
        exact w _ List.mem_cons_self u (List.mem_cons_of_mem _ hu)
      · exact w x (List.mem_cons_of_mem _ e) u hu
    · obtain ⟨r', hr', rfl⟩ := List.mem_map.mp hr
      rw [(endL_holder r').2]
      exact g.wr r' hr'
    · rcases List.mem_cons.mp hp with rfl | hp
      · intro v hv u hu
        rcases List.mem_cons.mp hv with rfl | hv
        · cases ok with
          | true =>
            rcases List.mem_append.mp (show u ∈ m.recs ++ l.recs from hu) with hu | hu
            · exact wlm m (List.mem_cons_of_mem _ List.mem_cons_self) u hu
            · exact wlm l List.mem_cons_self u hu
          | false => exact wlm m (List.mem_cons_of_mem _ List.mem_cons_self) u hu
        · exact wlm v (List.mem_cons_of_mem _ (List.mem_cons_of_mem _ hv)) u hu
      · exact wl p (List.mem_cons_of_mem _ hp)
    · have t1 : totL ((l :: m :: ls) :: rest) = (l.recs.length + (m.recs.length + (ls.map (·.recs.length)).sum)) + totL rest := rfl
      have t2 : totL (((if ok = true then ⟨m.rsn, m.recs ++ l.recs⟩ else m) :: ls) :: rest) = ((if ok = true then (⟨m.rsn, m.recs ++ l.recs⟩ : Lvl) else m).recs.length + (ls.map (·.recs.length)).sum) + totL rest := rfl
      rw [t2]
      cases ok with
      | true =>
        have : ((if true = true then (⟨m.rsn, m.recs ++ l.recs⟩ : Lvl) else m).recs.length) = m.recs.length + l.recs.length := List.length_append
        omega
      | false =>
        have : ((if false = true then (⟨m.rsn, m.recs ++ l.recs⟩ : Lvl) else m).recs.length) = m.recs.length := rfl
        omega
/-- a write that is kept at once -/
theorem A7.kept {r : Row} (g : A7 D stk n) (hf : r.fate = "kept") (hh : r.holder = -1) (hw : IsWord r.rcd) : A7 (addD D r) stk (n + 1) := by
  have ap : ∀ m : Int, ∀ P : Row → Prop, (∃ x ∈ D.rows, x.fate = "open" ∧ x.holder = m ∧ P x) ↔ ∃ x ∈ D.rows ++ [r], x.fate = "open" ∧ x.holder = m ∧ P x := fun m P => by
    constructor
    · rintro ⟨x, hx, q⟩
      exact ⟨x, List.mem_append_left _ hx, q⟩
    · rintro ⟨x, hx, q⟩
      rcases List.mem_append.mp hx with hx | hx
      · exact ⟨x, hx, q⟩
      · rcases List.mem_singleton.mp hx with rfl
        rw [hf] at q
        exact absurd q.1 (by decide +kernel)
  refine ⟨g.wf, g.fl, Nat.le_succ_of_le g.e, ?_, g.tx.imp fun t l _ h => h.rows fun x _ P => ap x.num P, g.lt, g.dist, fun x hx => ?_, g.w, fun x hx => ?_, g.wl, Nat.le_succ_of_le g.tot, g.op⟩
  · show (D.rows ++ [r]).length ≤ n + 1
    rw [List.length_append]
    have := g.r
    simp
    omega
  · rcases List.mem_append.mp hx with hx | hx
    · exact g.hl x hx
    · rcases List.mem_singleton.mp hx with rfl
      have := g.op
      rw [hh]
      show -1 < D.opened
      omega
  · rcases List.mem_append.mp hx with hx | hx
    · exact g.wr x hx
    · rcases List.mem_singleton.mp hx with rfl
      exact hw
/-- a write of the present transaction -/
theorem A7.opens {k : Int} {y : Option Str} {rs : List (Option Str)} {st : List (Option Tx)} {l : Lvl} {ls : List Lvl} {rest : List (List Lvl)} {z : Str} {v : V} (g : A7 D stk n) (e1 : D.stack = some ⟨k, y :: rs⟩ :: st) (e2 : stk = (l :: ls) :: rest) (hw : IsWord z) :
    A7 (addD D ⟨z, v, "open", k, rs.length⟩) ((⟨l.rsn, l.recs ++ [z]⟩ :: ls) :: rest) (n + 1) := by
  have tx := g.tx
  have di := g.dist
  have wl := g.wl
  have tt := g.tot
  rw [e1] at tx di
  rw [e2] at tx wl tt
  obtain ⟨d1, d2⟩ := List.pairwise_cons.mp di
  have lt := g.lt ⟨k, y :: rs⟩ (by rw [e1]; exact List.mem_cons_self)
  cases tx with
  | cons r tl =>
    obtain ⟨h1, h2, h3⟩ := r
    dsimp only at h1
    rw [List.map_cons] at h1
    have hlen : ls.length = rs.length := by rw [← (List.cons.inj h1).2, List.length_map]
    obtain ⟨v1, v2⟩ := h2
    refine ⟨g.wf, g.fl, Nat.le_succ_of_le g.e, ?_, ?_, g.lt, g.dist, fun x hx => ?_, g.w, fun x hx => ?_, fun m hm => ?_, ?_, g.op⟩
    · show (D.rows ++ [_]).length ≤ n + 1
      rw [List.length_append]
      have := g.r
      simp
      omega
    · show All2 (TR (D.rows ++ [_])) D.stack _
      rw [e1]
      refine .cons ⟨h1, ⟨fun u => ?_, ?_⟩, fun x hx a b => ?_⟩ (tl.imp fun t m ht h => h.rows fun x ex P => ?_)
      · rw [List.mem_append, v1 u]
        constructor
        · rintro (⟨x, hx, q⟩ | hu)
          · exact ⟨x, List.mem_append_left _ hx, q⟩
          · rcases List.mem_singleton.mp hu with rfl
            exact ⟨_, List.mem_append_right _ List.mem_cons_self, rfl, rfl, by show (rs.length : Int) = _; omega, rfl⟩
        · rintro ⟨x, hx, q⟩
          rcases List.mem_append.mp hx with hx | hx
          · exact .inl ⟨x, hx, q⟩
          · rcases List.mem_singleton.mp hx with rfl
            exact .inr (List.mem_singleton.mpr q.2.2.2.symm)
      · have gen : ∀ {ms : List Lvl}, ms.length ≤ ls.length → LvOk D.rows k ms → LvOk (D.rows ++ [⟨z, v, "open", k, rs.length⟩]) k ms := by
          intro ms
          induction ms with
          | nil => exact fun _ _ => trivial
          | cons a ms ih =>
            intro hl h
            rw [List.length_cons] at hl
            refine ⟨fun u => ?_, ih (by omega) h.2⟩
            rw [h.1 u]
            constructor
            · rintro ⟨x, hx, q⟩
              exact ⟨x, List.mem_append_left _ hx, q⟩
            · rintro ⟨x, hx, q⟩
              rcases List.mem_append.mp hx with hx | hx
              · exact ⟨x, hx, q⟩
              · rcases List.mem_singleton.mp hx with rfl
                have c : (rs.length : Int) = (ms.length : Int) := q.2.2.1
                omega
        exact gen (Nat.le_refl _) v2
      · rcases List.mem_append.mp hx with hx | hx
        · exact h3 x hx a b
        · rcases List.mem_singleton.mp hx with rfl
          show 0 ≤ (rs.length : Int) ∧ (rs.length : Int) < _
          rw [List.length_cons]
          omega
      · subst ex
        constructor
        · rintro ⟨u, hu, q⟩
          exact ⟨u, List.mem_append_left _ hu, q⟩
        · rintro ⟨u, hu, q⟩
          rcases List.mem_append.mp hu with hu | hu
          · exact ⟨u, hu, q⟩
          · rcases List.mem_singleton.mp hu with rfl
            exact absurd q.2.1 (d1 _ ht ⟨k, y :: rs⟩ x rfl rfl)
    · rcases List.mem_append.mp hx with hx | hx
      · exact g.hl x hx
      · rcases List.mem_singleton.mp hx with rfl
        exact lt
    · rcases List.mem_append.mp hx with hx | hx
      · exact g.wr x hx
      · rcases List.mem_singleton.mp hx with rfl
        exact hw
    · rcases List.mem_cons.mp hm with rfl | hm
      · intro u hu c hc
        rcases List.mem_cons.mp hu with rfl | hu
        · rcases List.mem_append.mp (show c ∈ l.recs ++ [z] from hc) with hc | hc
          · exact wl _ List.mem_cons_self l List.mem_cons_self c hc
          · rcases List.mem_singleton.mp hc with rfl
            exact hw
        · exact wl _ List.mem_cons_self u (List.mem_cons_of_mem _ hu) c hc
      · exact wl m (List.mem_cons_of_mem _ hm)
    · have t1 : totL ((l :: ls) :: rest) = (l.recs.length + (ls.map (·.recs.length)).sum) + totL rest := rfl
      have t2 : totL ((⟨l.rsn, l.recs ++ [z]⟩ :: ls) :: rest) = ((l.recs ++ [z]).length + (ls.map (·.recs.length)).sum) + totL rest := rfl
      rw [t2, List.length_append, List.length_singleton]
      omega
end
/-! ### the records that the law expects -/
def szL (ls : List Lvl) : Nat := (ls.map (·.recs.length)).sum
def catI (ls : List Lvl) (i : Nat) : List Str := ((ls.reverse.take i).map (·.recs)).flatten
theorem catI_step {ls : List Lvl} {i : Nat} {l : Lvl} (h : ls.reverse[i]? = some l) : catI ls (i + 1) = catI ls i ++ l.recs := by
  unfold catI
  rw [List.take_add_one, h, List.map_append, List.flatten_append]
  simp
theorem sum_take : ∀ (l : List Nat) (i : Nat), (l.take i).sum ≤ l.sum
  | [], i => by simp
  | x :: r, 0 => by simp
  | x :: r, i + 1 => by
    have := sum_take r i
    simp only [List.take_succ_cons, List.sum_cons]
    omega
theorem catI_len (ls : List Lvl) (i : Nat) : (catI ls i).length ≤ szL ls := by
  unfold catI szL
  rw [List.length_flatten, List.map_map, List.map_take]
  refine Nat.le_trans (sum_take _ i) ?_
  rw [List.map_reverse, List.sum_reverse]
  exact Nat.le_refl _
theorem catI_all (ls : List Lvl) : catI ls ls.length = cat ls := by
  unfold catI cat
  rw [List.take_of_length_le (by rw [List.length_reverse]; exact Nat.le_refl _)]
theorem rv_get {α : Type} {f : α → V} {l : List α} {i : Nat} {v : V} (h : (rv f l)[i]? = some v) : ∃ x, l.reverse[i]? = some x ∧ v = f x := by
  unfold rv at h
  rw [← List.map_reverse, List.getElem?_map] at h
  cases e : l.reverse[i]? with
  | none => rw [e] at h; cases h
  | some x =>
    rw [e] at h
    cases h
    exact ⟨x, rfl, rfl⟩
def spLRecs : Sp := fun vs H Q _ => ∃ (q : TxA) (ls : List Lvl), vs = [.ref q.1] ∧ TxM H q ls ∧ szL ls ≤ 3000 ∧ ∀ H' r, Same H H' → H' r = some (.lst ((recsM ls).map V.str)) → H r = none → Q (.ref r) H'
theorem ok_law_records (T : Txt K mg a d) : FnOk P w K mg base CX0 1 a.law_records d.law_records ["_law_levels"] spLRecs := by
  refine T.law_records.ok sc_law_records (fun vs H Q E h => ?_) (fun cdv A outer s H vs Q E hr h => ?_)
  · obtain ⟨q, ls, rfl, _⟩ := h
    rfl
  · obtain ⟨q, ls, rfl, ⟨hq, hl⟩, hz, k⟩ := h
    have h4 : scanBound = 4096 := rfl
    refine ⟨_, (pss_cons (ps_set (i := 1) sc_law_records.nd rfl (Or.inl rfl) (pe_lst pa_nil))
  (pss_cons (ps_for PassesOwn.never rfl (pi_list (pv 0)) (pg_name (i := 2) sc_law_records.nd rfl (Or.inl rfl))
  (pss_one (ps_set (i := 1) sc_law_records.nd rfl (Or.inl rfl) (pe_op op_cat (pv 1) (pe_ix ix_list (pv 2) pe_int (fun _ _ => rfl))))))
  (pss_one (ps_ret (pe_callB (cr_sortTS rfl) (by rfl) T.n_sorted (by decide +kernel) (pa_cons (pe_callTy (cr_setTSL rfl) (by rfl) T.n_set (by decide +kernel) (pa_cons (pv 1) pa_nil)) pa_nil)))))), ?_⟩
    dsimp only [cxOf]
    walk_at "rd"
    intro f0 g0
    have s0 : Same H (upd H f0 (.lst [])) := (Same.refl H).new g0
    refine ⟨_, rfl, _, rfl, ⟨_, SqL.of (s0 _ _ hq)⟩, ?_⟩
    refine for_list (xs := rv lvV q.2) (fun i σ H' => ∃ f v2, Same H H' ∧ H' f = some (.lst ((catI ls i).map V.str)) ∧ σ = [some (.ref q.1), some (.ref f), v2]) ?_ ?_ ?_ ?_
    · exact ⟨f0, none, s0, upd_same, rfl⟩
    · rintro i σ H' _ ⟨f, v2, s1, hf, rfl⟩
      exact SqL.of (s1 _ _ hq)
    · rintro i v σ H' hv ⟨f, v2, s1, hf, rfl⟩
      obtain ⟨l, hl1, rfl⟩ := rv_get hv
      obtain ⟨x, hx, hx1, hx2⟩ := hl.rev.get hl1
      have j1 := s1 _ _ hx1
      have j2 := s1 _ _ hx2
      have ix : atI [oV x.rsn, V.ref l.2] 1 = some (V.ref l.2) := rfl
      have b1 := catI_len ls (i + 1)
      rw [catI_step hx, List.length_append] at b1
      walk_at "rd"
      refine ⟨by rw [List.length_map, List.length_map, sizeLine_eq]; omega, ?_⟩
      intro n1 g1
      refine ⟨n1, _, s1.new g1, ?_, rfl⟩
      rw [catI_step hx, List.map_append]
      exact upd_same
    · rintro σ H' ⟨f, v2, s1, hf, rfl⟩
      rw [rv_len, hl.len, catI_all] at hf
      have b1 : (cat ls).length ≤ 3000 := by
        have := catI_len ls ls.length
        rw [catI_all] at this
        omega
      walk_at "rd"
      intro S hS
      refine ⟨S, _, rfl, upd_same, fun r hr => ?_⟩
      exact k _ r ((s1.new hS).new hr) upd_same ((s1.new hS).free hr)
def outI (stk : List (List Lvl)) (i : Nat) : List Str := ((stk.reverse.take i).map recsM).flatten
theorem outI_step {stk : List (List Lvl)} {i : Nat} {ls : List Lvl} (h : stk.reverse[i]? = some ls) : outI stk (i + 1) = outI stk i ++ recsM ls := by
  unfold outI
  rw [List.take_add_one, h, List.map_append, List.flatten_append]
  simp
theorem recsM_len (ls : List Lvl) : (recsM ls).length ≤ szL ls := by
  unfold recsM
  rw [sortT_len]
  refine Nat.le_trans setT_len ?_
  have := catI_len ls ls.length
  rwa [catI_all] at this
theorem outI_len (stk : List (List Lvl)) (i : Nat) : (outI stk i).length ≤ totL stk := by
  unfold outI totL
  rw [List.length_flatten, List.map_map, List.map_take]
  refine Nat.le_trans (sum_take _ i) ?_
  rw [List.map_reverse, List.sum_reverse]
  induction stk with
  | nil => exact Nat.le_refl _
  | cons l r ih =>
    have := recsM_len l
    simp only [List.map_cons, List.sum_cons, Function.comp] at *
    unfold szL at this
    omega
theorem outI_all (stk : List (List Lvl)) : outI stk stk.length = (stk.reverse.map recsM).flatten := by
  unfold outI
  rw [List.take_of_length_le (by rw [List.length_reverse]; exact Nat.le_refl _)]
theorem sz_mem : ∀ {stk : List (List Lvl)} {ls : List Lvl}, ls ∈ stk → szL ls ≤ totL stk
  | l :: r, ls, h => by
    have e : totL (l :: r) = szL l + totL r := rfl
    rcases List.mem_cons.mp h with rfl | h
    · omega
    · have := sz_mem h
      omega
def spLOuter : Sp := fun vs H Q _ => ∃ (p : Addr) (Ls : List TxA) (stk : List (List Lvl)), vs = [.ref p] ∧ H p = some (.lst (rv txV Ls)) ∧ All2 (TxM H) Ls stk ∧ stk ≠ [] ∧ totL stk ≤ 3000 ∧ ∀ H' r, Same H H' → H' r = some (.lst ((outerM stk).map V.str)) → H r = none → Q (.ref r) H'
theorem ok_law_outer (T : Txt K mg a d) : FnOk P w K mg base CX0 2 a.law_outer d.law_outer ["_law_stack"] spLOuter := by
  have G_law_records : FnOk P w K mg base CX0 1 a.law_records d.law_records ["_law_levels"] spLRecs := ok_law_records T
  refine T.law_outer.ok sc_law_outer (fun vs H Q E h => ?_) (fun cdv A outer s H vs Q E hr h => ?_)
  · obtain ⟨p, Ls, stk, rfl, _⟩ := h
    rfl
  · obtain ⟨p, Ls, stk, rfl, hp, ha, ne, hz, k⟩ := h
    have h4 : scanBound = 4096 := rfl
    cases ha with
    | nil => exact absurd rfl ne
    | @cons q0 ls0 Ls stk h0 ha =>
    have e0 : totL (ls0 :: stk) = szL ls0 + totL stk := rfl
    refine ⟨_, (pss_cons (ps_set (i := 1) sc_law_outer.nd rfl (Or.inl rfl) (pe_lst pa_nil))
  (pss_cons (ps_for PassesOwn.never rfl (pi_list (pe_slice sl_list (pv 0) po_none (po_some (pe_un un_neg pe_int)))) (pg_name (i := 2) sc_law_outer.nd rfl (Or.inl rfl))
  (pss_one (ps_set (i := 1) sc_law_outer.nd rfl (Or.inl rfl) (pe_op op_cat (pv 1) (pe_call G_law_records (hr.mono (by decide)) (by rfl) T.g_law_records T.law_records.kp T.b_law_records .nil pass0 (pa_cons (pv 2) pa_nil))))))
  (pss_one (ps_ret (pe_callB (cr_sortTS rfl) (by rfl) T.n_sorted (by decide +kernel) (pa_cons (pe_callTy (cr_setTSL rfl) (by rfl) T.n_set (by decide +kernel) (pa_cons (pv 1) pa_nil)) pa_nil)))))), ?_⟩
    dsimp only [cxOf]
    walk_at "rd"
    intro f0 g0
    have s0 : Same H (upd H f0 (.lst [])) := (Same.refl H).new g0
    have hp0 := s0 _ _ hp
    walk_at "rd"
    intro p1 g1
    rw [cut_rv]
    have s1 : Same H (upd (upd H f0 (.lst [])) p1 (.lst (rv txV Ls))) := s0.new g1
    have hp1 := upd_same (H := upd H f0 (.lst [])) (a := p1) (o := .lst (rv txV Ls))
    have hf0 := upd_old (o := .lst (rv txV Ls)) (upd_same (H := H) (a := f0) (o := .lst [])) g1
    refine ⟨_, rfl, ⟨_, SqL.of upd_same⟩, ?_⟩
    generalize upd (upd H f0 (.lst [])) p1 (.lst (rv txV Ls)) = H1 at s1 hp1 hf0 ⊢
    refine for_list (xs := rv txV Ls) (fun i σ H' => ∃ f v2, Same H H' ∧ Same H1 H' ∧ H' f = some (.lst ((outI stk i).map V.str)) ∧ σ = [some (.ref p), some (.ref f), v2]) ?_ ?_ ?_ ?_
    · exact ⟨f0, none, s1, Same.refl _, hf0, rfl⟩
    · rintro i σ H' _ ⟨f, v2, s2, s3, hf, rfl⟩
      exact SqL.of (s3 _ _ hp1)
    · rintro i v σ H' hv ⟨f, v2, s2, s3, hf, rfl⟩
      obtain ⟨q, hq1, rfl⟩ := rv_get hv
      obtain ⟨ls, hls, hM⟩ := ha.rev.get hq1
      have b0 := sz_mem (List.mem_reverse.mp (List.mem_of_getElem? hls))
      have b1 := outI_len stk (i + 1)
      rw [outI_step hls, List.length_append] at b1
      walk_at "rd"
      refine ⟨q, ls, rfl, hM.keep fun b u _ e => s2 b u e, by omega, fun H3 r s4 hr0 _ => ?_⟩
      have hf3 := s4 _ _ hf
      walk_at "rd"
      refine ⟨by rw [List.length_map, List.length_map, sizeLine_eq]; omega, ?_⟩
      intro n1 g1
      refine ⟨n1, _, (s2.trans s4).new g1, (s3.trans s4).new g1, ?_, rfl⟩
      rw [outI_step hls, List.map_append]
      exact upd_same
    · rintro σ H' ⟨f, v2, s2, s3, hf, rfl⟩
      rw [rv_len, ha.len, outI_all] at hf
      have b1 : ((stk.reverse.map recsM).flatten).length ≤ 3000 := by
        have := outI_len stk stk.length
        rw [outI_all] at this
        omega
      walk_at "rd"
      intro S hS
      refine ⟨S, _, rfl, upd_same, fun r hr => ?_⟩
      exact k _ r ((s2.new hS).new hr) upd_same ((s2.new hS).free hr)
/-! ### the law's steps on its own stack -/
section
variable {a : Ad} {H0 H H' : Hp} {pp x p so : Addr} {L : Lay} {D : Db} {Ls : List TxA} {stk : List (List Lvl)} {ss : List Str} {c : Nat}
theorem M7.fresh (h : M7 H p so Ls stk ss) {b : Addr} (e : H b = none) : b ∉ muts p so Ls ∧ b ∉ imms Ls :=
  ⟨fun z => (by obtain ⟨xs, q⟩ := h.there (.inl z); rw [e] at q; cases q), fun z => (by obtain ⟨xs, q⟩ := h.there (.inr z); rw [e] at q; cases q)⟩
theorem K7.sorts (h : K7 a H0 pp x p so H L D Ls stk ss c) (ss' : List Str) : K7 a H0 pp x p so (upd H so (.lst (rv V.str ss'))) L D Ls stk ss' c :=
  h.mdl (h.mat.setS ss') (F7.set (List.mem_cons_of_mem _ List.mem_cons_self))
theorem K7.pushS {z : Str} (h : K7 a H0 pp x p so H L D Ls stk ss c) : K7 a H0 pp x p so (upd H so (.lst (rv V.str ss ++ [.str z]))) L D Ls stk (z :: ss) c := by
  have := h.sorts (z :: ss)
  rwa [rv_cons] at this
theorem K7.popS {z : Str} (h : K7 a H0 pp x p so H L D Ls stk (z :: ss) c) : K7 a H0 pp x p so (upd H so (.lst (rv V.str (z :: ss)).dropLast)) L D Ls stk ss c := by
  have := h.sorts ss
  rwa [← rv_drop (f := V.str) (x := z) (l := ss)] at this
/-- stack.append([[None, []]]) -/
theorem K7.pushT {n1 n2 n3 : Addr} (h : K7 a H0 pp x p so H L D Ls stk ss c) (g1 : H n1 = none) (g2 : upd H n1 (.lst []) n2 = none) (g3 : upd (upd H n1 (.lst [])) n2 (.lst [.non, .ref n1]) n3 = none) :
    K7 a H0 pp x p so (upd (upd (upd (upd H n1 (.lst [])) n2 (.lst [.non, .ref n1])) n3 (.lst [.ref n2])) p (.lst (rv txV Ls ++ [.ref n3]))) L D ((n3, [(n2, n1)]) :: Ls) ([⟨none, []⟩] :: stk) ss c := by
  have s1 := (Same.refl H).new (o := .lst []) g1
  have s2 := s1.new (o := .lst [.non, .ref n1]) g2
  have s3 := s2.new (o := .lst [.ref n2]) g3
  have I3 := h.keep s3
  obtain ⟨q12, g2'⟩ := none_upd g2
  obtain ⟨q23, g3'⟩ := none_upd g3
  obtain ⟨q13, g3''⟩ := none_upd g3'
  have a1 := h.mat.fresh g1
  have a2 := h.mat.fresh g2'
  have a3 := h.mat.fresh g3''
  have hM := I3.mat.push (q := (n3, [(n2, n1)])) (ls := [⟨none, []⟩]) ⟨upd_same, .cons ⟨upd_oth (Ne.symm q23) upd_same, upd_oth (Ne.symm q13) (upd_oth (Ne.symm q12) upd_same)⟩ .nil⟩ (fun b hb => ?_) ?_ (fun b hb => ?_)
  · rw [rv_cons (x := (n3, [(n2, n1)]))] at hM
    refine h.mdl hM (F7.lay ((F7.same s3).trans (F7.set (Ls := Ls) List.mem_cons_self)) (fun b hb => ?_) fun b hb => ?_)
    · rcases mem_muts.mp hb with hb | hb
      · have hb : b ∈ [n3, n2] := hb
        simp only [List.mem_cons, List.not_mem_nil, or_false] at hb
        rcases hb with rfl | rfl
        · exact .inr g3''
        · exact .inr g2'
      · exact .inl hb
    · rcases mem_imms.mp hb with hb | hb
      · rcases List.mem_singleton.mp (show b ∈ [n1] from hb) with rfl
        exact .inr g1
      · exact .inl (.inr hb)
  · have hb : b ∈ [n3, n2] := hb
    simp only [List.mem_cons, List.not_mem_nil, or_false] at hb
    rcases hb with rfl | rfl
    · exact ⟨a3.1, a3.2, fun z => q13 (List.mem_singleton.mp (show b ∈ [n1] from z))⟩
    · exact ⟨a2.1, a2.2, fun z => q12 (List.mem_singleton.mp (show b ∈ [n1] from z))⟩
  · show [n3, n2].Nodup
    simp [q23]
  · rcases List.mem_singleton.mp (show b ∈ [n1] from hb) with rfl
    exact a1.1
/-- stack.append([]) -/
theorem K7.pushN {n1 : Addr} (h : K7 a H0 pp x p so H L D Ls stk ss c) (g1 : H n1 = none) : K7 a H0 pp x p so (upd (upd H n1 (.lst [])) p (.lst (rv txV Ls ++ [.ref n1]))) L D ((n1, []) :: Ls) ([] :: stk) ss c := by
  have s1 := (Same.refl H).new (o := .lst []) g1
  have I1 := h.keep s1
  have a1 := h.mat.fresh g1
  have hM := I1.mat.push (q := (n1, [])) (ls := []) ⟨upd_same, .nil⟩ (fun b hb => ?_) (by show [n1].Nodup; simp) (fun b hb => by cases hb)
  · rw [rv_cons (x := (n1, []))] at hM
    refine h.mdl hM (F7.lay ((F7.same s1).trans (F7.set (Ls := Ls) List.mem_cons_self)) (fun b hb => ?_) fun b hb => ?_)
    · rcases mem_muts.mp hb with hb | hb
      · rcases List.mem_singleton.mp (show b ∈ [n1] from hb) with rfl
        exact .inr g1
      · exact .inl hb
    · rcases mem_imms.mp hb with hb | hb
      · cases hb
      · exact .inl (.inr hb)
  · rcases List.mem_singleton.mp (show b ∈ [n1] from hb) with rfl
    exact ⟨a1.1, a1.2, fun z => by cases z⟩
/-- top.append([None, []]) -/
theorem K7.pushL {qa n1 n2 : Addr} {lv : List LvA} {ls : List Lvl} (h : K7 a H0 pp x p so H L D ((qa, lv) :: Ls) (ls :: stk) ss c) (g1 : H n1 = none) (g2 : upd H n1 (.lst []) n2 = none) :
    K7 a H0 pp x p so (upd (upd (upd H n1 (.lst [])) n2 (.lst [.non, .ref n1])) qa (.lst (rv lvV lv ++ [.ref n2]))) L D ((qa, (n2, n1) :: lv) :: Ls) ((⟨none, []⟩ :: ls) :: stk) ss c := by
  have s1 := (Same.refl H).new (o := .lst []) g1
  have s2 := s1.new (o := .lst [.non, .ref n1]) g2
  have I2 := h.keep s2
  obtain ⟨q12, g2'⟩ := none_upd g2
  have a1 := h.mat.fresh g1
  have a2 := h.mat.fresh g2'
  have hM := I2.mat.pushL (l := (n2, n1)) (x := ⟨none, []⟩) ⟨upd_same, upd_oth (Ne.symm q12) upd_same⟩ a2.1 a2.2 a1.1 q12
  rw [rv_cons (x := (n2, n1))] at hM
  have qm : qa ∈ muts p so ((qa, lv) :: Ls) := mem_muts.mpr (.inl List.mem_cons_self)
  refine h.mdl hM (F7.lay ((F7.same s2).trans (F7.set qm)) (fun b hb => ?_) fun b hb => ?_)
  · rcases mem_muts.mp hb with hb | hb
    · have hb : b ∈ qa :: n2 :: lv.map (·.1) := hb
      rcases List.mem_cons.mp hb with rfl | hb
      · exact .inl qm
      rcases List.mem_cons.mp hb with rfl | hb
      · exact .inr g2'
      · exact .inl (mem_muts.mpr (.inl (List.mem_cons_of_mem _ hb)))
    · exact .inl (mem_muts.mpr (.inr hb))
  · rcases mem_imms.mp hb with hb | hb
    · have hb : b ∈ n1 :: lv.map (·.2) := hb
      rcases List.mem_cons.mp hb with rfl | hb
      · exact .inr g1
      · exact .inl (.inr (mem_imms.mpr (.inl hb)))
    · exact .inl (.inr (mem_imms.mpr (.inr hb)))
/-- stack.pop() -/
theorem K7.popT {q : TxA} {ls : List Lvl} (h : K7 a H0 pp x p so H L D (q :: Ls) (ls :: stk) ss c) : K7 a H0 pp x p so (upd H p (.lst (rv txV (q :: Ls)).dropLast)) L D Ls stk ss c := by
  have hM := h.mat.pop
  rw [← rv_drop (f := txV) (x := q) (l := Ls)] at hM
  refine h.mdl hM (F7.lay (F7.set (Ls := q :: Ls) List.mem_cons_self) (fun b hb => .inl (mem_muts.mpr (.inr hb))) fun b hb => .inl (.inr (mem_imms.mpr (.inr hb))))
/-- stack[-1].pop() -/
theorem K7.popL {qa : Addr} {l : LvA} {lv : List LvA} {y : Lvl} {ls : List Lvl} (h : K7 a H0 pp x p so H L D ((qa, l :: lv) :: Ls) ((y :: ls) :: stk) ss c) : K7 a H0 pp x p so (upd H qa (.lst (rv lvV (l :: lv)).dropLast)) L D ((qa, lv) :: Ls) (ls :: stk) ss c := by
  have hM := h.mat.popL
  rw [← rv_drop (f := lvV) (x := l) (l := lv)] at hM
  have qm : qa ∈ muts p so ((qa, l :: lv) :: Ls) := mem_muts.mpr (.inl List.mem_cons_self)
  refine h.mdl hM (F7.lay (F7.set qm) (fun b hb => .inl ?_) fun b hb => .inl (.inr ?_))
  · rcases mem_muts.mp hb with hb | hb
    · have hb : b ∈ qa :: lv.map (·.1) := hb
      rcases List.mem_cons.mp hb with rfl | hb
      · exact qm
      · exact mem_muts.mpr (.inl (List.mem_cons_of_mem _ (List.mem_cons_of_mem _ hb)))
    · exact mem_muts.mpr (.inr hb)
  · rcases mem_imms.mp hb with hb | hb
    · exact mem_imms.mpr (.inl (List.mem_cons_of_mem _ hb))
    · exact mem_imms.mpr (.inr hb)
/-- stack[-1][-1] = [y, r] in place -/
theorem K7.setL {qa r' : Addr} {l : LvA} {lv : List LvA} {y y' : Lvl} {ls : List Lvl} (h : K7 a H0 pp x p so H L D ((qa, l :: lv) :: Ls) ((y :: ls) :: stk) ss c) (hr : H r' = some (.lst (y'.recs.map V.str))) (nr : r' ∉ muts p so ((qa, l :: lv) :: Ls)) (nd : ¬ Mut L r' ∧ r' ≠ pp ∧ H0 r' = none) :
    K7 a H0 pp x p so (upd H l.1 (.lst [oV y'.rsn, .ref r'])) L D ((qa, (l.1, r') :: lv) :: Ls) ((y' :: ls) :: stk) ss c := by
  have hM := h.mat.setL (x' := y') (r' := r') hr nr
  have lm : l.1 ∈ muts p so ((qa, l :: lv) :: Ls) := mem_muts.mpr (.inl (List.mem_cons_of_mem _ List.mem_cons_self))
  have em : muts p so ((qa, (l.1, r') :: lv) :: Ls) = muts p so ((qa, l :: lv) :: Ls) := rfl
  obtain ⟨o, h1, h2⟩ := h.pool
  have npp : ¬ pp ∈ muts p so ((qa, l :: lv) :: Ls) := fun z => (h.d1 pp (.inl z)).2 rfl
  have ie : ∀ b, b ∈ imms ((qa, (l.1, r') :: lv) :: Ls) → b = r' ∨ b ∈ imms ((qa, l :: lv) :: Ls) := fun b hb => by
    rcases mem_imms.mp hb with hb | hb
    · rcases List.mem_cons.mp (show b ∈ r' :: lv.map (·.2) from hb) with e | hb
      · exact .inl e
      · exact .inr (mem_imms.mpr (.inl (List.mem_cons_of_mem _ hb)))
    · exact .inr (mem_imms.mpr (.inr hb))
  refine ⟨fun b u e => ?_, ⟨o, upd_oth (fun z => npp (z ▸ lm)) h1, h2⟩, ?_, h.ed, hM, fun b hb => ?_, fun b hb => ?_, h.d2⟩
  · refine upd_oth (fun z => ?_) (h.same b u e)
    rw [z, h.fre l.1 (.inr (.inr (.inl lm)))] at e; cases e
  · refine h.dat.kpS (S := fun b => b = l.1) (Kp.refl.set rfl) fun b hb => ⟨?_, fun C dx fs e => ?_⟩
    · rw [hb]; exact (h.d1 _ (.inl lm)).1
    · obtain ⟨xs, e2⟩ := h.mat.there (.inl lm)
      rw [hb, e2] at e; cases e
  · rcases hb with hb | hb | hb | hb
    · exact h.fre b (.inl hb)
    · exact h.fre b (.inr (.inl hb))
    · exact h.fre b (.inr (.inr (.inl hb)))
    · rcases ie b hb with rfl | hb
      · exact nd.2.2
      · exact h.fre b (.inr (.inr (.inr hb)))
  · rcases hb with hb | hb
    · exact h.d1 b (.inl hb)
    · rcases ie b hb with rfl | hb
      · exact ⟨nd.1, nd.2.1⟩
      · exact h.d1 b (.inr hb)
/-- the same records -/
theorem K7.setR {qa : Addr} {l : LvA} {lv : List LvA} {y : Lvl} {ls : List Lvl} (h : K7 a H0 pp x p so H L D ((qa, l :: lv) :: Ls) ((y :: ls) :: stk) ss c) (z : Option Str) :
    K7 a H0 pp x p so (upd H l.1 (.lst [oV z, .ref l.2])) L D ((qa, l :: lv) :: Ls) ((⟨z, y.recs⟩ :: ls) :: stk) ss c := by
  have hq := h.mat.hq
  cases hq with
  | cons h1 _ =>
    obtain ⟨_, h2⟩ := h1
    cases h2 with
    | cons h3 _ =>
      have im : l.2 ∈ imms ((qa, l :: lv) :: Ls) := mem_imms.mpr (.inl List.mem_cons_self)
      exact h.setL (y' := ⟨z, y.recs⟩) h3.2 (h.mat.im _ im) ⟨(h.d1 _ (.inr im)).1, (h.d1 _ (.inr im)).2, h.fre _ (.inr (.inr (.inr im)))⟩
/-- new records, a new list -/
theorem K7.setN {qa r' : Addr} {l : LvA} {lv : List LvA} {y : Lvl} {ls : List Lvl} {rs : List Str} (h : K7 a H0 pp x p so H L D ((qa, l :: lv) :: Ls) ((y :: ls) :: stk) ss c) (g : H r' = none) :
    K7 a H0 pp x p so (upd (upd H r' (.lst (rs.map V.str))) l.1 (.lst [oV y.rsn, .ref r'])) L D ((qa, (l.1, r') :: lv) :: Ls) ((⟨y.rsn, rs⟩ :: ls) :: stk) ss c := by
  have I1 := h.keep ((Same.refl H).new (o := .lst (rs.map V.str)) g)
  refine I1.setL (y' := ⟨y.rsn, rs⟩) upd_same (h.mat.fresh g).1 ⟨h.dat.fresh g, fun e => ?_, h.same.free g⟩
  obtain ⟨o, h1, _⟩ := h.pool
  rw [e, h1] at g; cases g
end
/-! ### the data of the law's stack -/
def oD : Option Str → PyData
  | none => .none
  | some z => .str z
theorem dp_o {K : PySem.W.Frag} {H : Hp} : ∀ y : Option Str, Dp K H (oV y) (oD y)
  | none => .non
  | some z => .str z
def lvD (l : Lvl) : PyData := .list [oD l.rsn, .list (l.recs.map PyData.str)]
def txD (ls : List Lvl) : List PyData := ls.reverse.map lvD
theorem dp_lv {K : PySem.W.Frag} {H : Hp} {l : LvA} {x : Lvl} (h : LvAt H l x) : Dp K H (lvV l) (lvD x) := .lst (SqL.of h.1) (.cons (dp_o _) (.cons (.lst (SqL.of h.2) (dp_strs _)) .nil))
theorem dp_all {K : PySem.W.Frag} {H : Hp} {lv : List LvA} {ls : List Lvl} (h : All2 (LvAt H) lv ls) : DpAll K H (lv.map lvV) (ls.map lvD) := by
  induction h with
  | nil => exact .nil
  | cons r _ ih => exact .cons (dp_lv r) ih
theorem dp_tx {K : PySem.W.Frag} {H : Hp} {q : TxA} {ls : List Lvl} (h : TxM H q ls) : Dp K H (.ref q.1) (.list (txD ls)) := by
  refine .lst (SqL.of h.1) ?_
  unfold rv txD
  rw [← List.map_reverse]
  exact dp_all h.2.rev
theorem eqv_tx (ls : List Lvl) : PyData.eqv (.list (txD ls)) (.list []) = ls.isEmpty := by
  show PyData.eqvAll (txD ls) [] = _
  rw [eqvAll_nil]
  unfold txD
  cases ls <;> simp
def LvW (l : Lvl) : Prop := (∀ z, l.rsn = some z → IsWord z) ∧ ∀ z ∈ l.recs, IsWord z
theorem lay_lv : ∀ {ls : List Lvl}, (∀ l ∈ ls, LvW l) → PyData.canLayAll0 (ls.map lvD) = true ∧ PyData.depthAll (ls.map lvD) ≤ 2
  | [], _ => ⟨rfl, by decide⟩
  | l :: r, h => by
    obtain ⟨h1, h2⟩ := lay_lv (ls := r) fun m hm => h m (List.mem_cons_of_mem _ hm)
    obtain ⟨w1, w2⟩ := h l List.mem_cons_self
    have e1 : PyData.canLayAll0 (l.recs.map PyData.str) = true := lay_strs fun y hy => (w2 y hy).asc
    have e2 : PyData.depthAll (l.recs.map PyData.str) = 0 := depth_strs _
    have e3 : PyData.canLay0 (oD l.rsn) = true ∧ PyData.depth (oD l.rsn) = 0 := by
      cases q : l.rsn with
      | none => exact ⟨rfl, rfl⟩
      | some z => exact ⟨asc_ok (w1 z q).asc, rfl⟩
    refine ⟨?_, ?_⟩
    · show ((PyData.canLay0 (oD l.rsn) && (PyData.canLayAll0 (l.recs.map PyData.str) && true)) && PyData.canLayAll0 (r.map lvD)) = true
      rw [h1, e1, e3.1]; rfl
    · show max ((max (PyData.depth (oD l.rsn)) (max (PyData.depthAll (l.recs.map PyData.str) + 1) 0)) + 1) (PyData.depthAll (r.map lvD)) ≤ 2
      rw [e2, e3.2]
      omega
theorem shaped_tx {ls : List Lvl} (h : ∀ l ∈ ls, LvW l) : SeqAt.shaped (.list (txD ls)) = true := by
  unfold txD
  obtain ⟨h1, h2⟩ := lay_lv (ls := ls.reverse) fun l hl => h l (List.mem_reverse.mp hl)
  show (PyData.canLayAll0 (ls.reverse.map lvD) && decide (PyData.depthAll (ls.reverse.map lvD) + 1 ≤ 64)) = true
  rw [h1, decide_eq_true (show PyData.depthAll (ls.reverse.map lvD) + 1 ≤ 64 by omega)]; rfl
theorem A7.lvw {D : Db} {ls : List Lvl} {rest : List (List Lvl)} {n : Nat} (g : A7 D (ls :: rest) n) : ∀ l ∈ ls, LvW l := by
  intro l hl
  refine ⟨fun z hz => ?_, g.wl ls List.mem_cons_self l hl⟩
  have tx := g.tx
  have w := g.w
  generalize D.stack = s at tx w
  cases tx with
  | @cons t _ st _ r _ =>
    cases t with
    | none =>
      cases (show ls = [] from r)
      cases hl
    | some x =>
      obtain ⟨h1, _⟩ := r
      refine w x List.mem_cons_self z ?_
      rw [← h1]
      exact List.mem_map.mpr ⟨l, hl, hz⟩
/-! ### the law enters -/
theorem no_Doomed_first (T : Txt K mg a d) : PySem.W.findIn K (.ref a.Doomed) "first" = some none := T.e_Doomed.noF ("first", .inl 0) (by simp [ef_Doomed])
theorem no_Doomed_word (T : Txt K mg a d) : PySem.W.findIn K (.ref a.Doomed) "word" = some none := T.e_Doomed.noF ("word", .inr "doomed") (by simp [ef_Doomed])
theorem no_Refused_word (T : Txt K mg a d) : PySem.W.findIn K (.ref a.Refused) "word" = some none := T.e_Refused.noF ("word", .inr "refused") (by simp [ef_Refused])
theorem no_Waits_word (T : Txt K mg a d) : PySem.W.findIn K (.ref a.Waits) "word" = some none := T.e_Waits.noF ("word", .inr "waits") (by simp [ef_Waits])
theorem no_Waits_record (T : Txt K mg a d) : PySem.W.findIn K (.ref a.Waits) "record" = some none := T.e_Waits.noF ("record", .inl 0) (by simp [ef_Waits])
def spE7 (a : Ad) : Sp := fun vs H Q _ => ∃ H0 pp x p so L D Ls stk c n m, vs = [.ref x, .ref p, .ref so, .str m] ∧ m ∈ modesS ∧ K7 a H0 pp x p so H L D Ls stk D.entered c ∧ A7 D stk n ∧ n ≤ 2000 ∧
  ∀ H' L' D' Ls' stk', K7 a H0 pp x p so H' L' D' Ls' stk' D'.entered c → A7 D' stk' (n + 1) → Q (.bl true) H'
theorem K7.tq {a : Ad} {H0 H : Hp} {pp x p so : Addr} {L : Lay} {D : Db} {q : TxA} {Ls : List TxA} {ls : List Lvl} {stk : List (List Lvl)} {ss : List Str} {c : Nat} (h : K7 a H0 pp x p so H L D (q :: Ls) (ls :: stk) ss c) : TxM H q ls := by
  have := h.mat.hq
  cases this
  assumption
theorem K7.tqs {a : Ad} {H0 H : Hp} {pp x p so : Addr} {L : Lay} {D : Db} {Ls : List TxA} {ls : List Lvl} {stk : List (List Lvl)} {ss : List Str} {c : Nat} (h : K7 a H0 pp x p so H L D Ls (ls :: stk) ss c) : ∃ q Lr, Ls = q :: Lr := by
  have := h.mat.hq
  cases this
  exact ⟨_, _, rfl⟩
theorem K7.tls {a : Ad} {H0 H : Hp} {pp x p so : Addr} {L : Lay} {D : Db} {q : TxA} {Ls : List TxA} {l : Lvl} {ls : List Lvl} {stk : List (List Lvl)} {ss : List Str} {c : Nat} (h : K7 a H0 pp x p so H L D (q :: Ls) ((l :: ls) :: stk) ss c) : ∃ la lr, q.2 = la :: lr ∧ LvAt H la l := by
  have := h.tq.2
  generalize q.2 = z at this ⊢
  cases this
  exact ⟨_, _, rfl, by assumption⟩
theorem ok_law_enter (T : Txt K mg a d) : FnOk P w K mg base CX0 6 a.law_enter d.law_enter ["_law_db", "_law_stack", "_law_sorts", "_law_mode"] (spE7 a) := by
  have G_Database_enter : FnOk P w K mg base (L2.CX P w) 5 a.Database_enter d.Database_enter ["self", "mode"] (spEnter a) := ok_Database_enter T
  refine T.law_enter.ok sc_law_enter (fun vs H Q E h => ?_) (fun cdv A outer s H vs Q E hr h => ?_)
  · obtain ⟨H0, pp, x, p, so, L, D, Ls, stk, c, n, m, rfl, _⟩ := h
    rfl
  · obtain ⟨H0, pp, x, p, so, L, D, Ls, stk, c, n, m, rfl, hmm, I, g, hn, k⟩ := h
    have tm : Thing H (.str m) := mode_thing hmm
    have le : (rv V.str D.entered).length < sizeLine := es_len (g.sm (by omega))
    have lp : (rv txV Ls).length < sizeLine := by
      rw [rv_len, I.mat.hq.len, ← g.tx.len, sizeLine_eq]
      have := (g.sm (by omega)).s
      omega
    refine ⟨_, (pss_cons (ps_set (i := 4) sc_law_enter.nd rfl (Or.inl rfl) (pe_ix ix_list (pv 1) (pe_un un_neg pe_int) (fun _ _ => rfl)))
  (pss_cons (ps_tryA rfl rfl sc_law_enter.nd takes0 (fun W pn xe tk po => (pss_one (ps_expr (pe_methSD (pv 0) T.k_Database T.m_Database_enter G_Database_enter (hr.mono (by decide)) T.b_Database_enter .nil (fun σ => passAt tk σ) (pa_cons (pv 3) pa_nil))))) (.cons (.intro (by rfl) (And.intro (by decide) (Or.inl T.g_Missing))) (fun _ _ _ _ _ hz hf => (pss_one (ps_ret (pe_and (pe_cmpR (op_eqDK (K := K) rfl hr.units) (pv 4) (pe_lst pa_nil) (nomark _)) (pe_one (pe_cmpR op_eq (pv 3) pe_str (nomark _))))))) (.cons (.intro (by rfl) (And.intro (by decide) (Or.inl T.g_Present))) (fun _ _ _ _ _ hz hf => (pss_one (ps_ret (pe_and (pe_cmpR (op_neDK (K := K) rfl hr.units) (pv 4) (pe_lst pa_nil) (nomark _)) (pe_one (pe_cmpR (op_inK (K := K) rfl) (pv 3) (pe_lst (pa_cons pe_str (pa_cons pe_str pa_nil))) (by rfl))))))) (.consA (i := 5) (.intro (by rfl) (And.intro (by decide) (Or.inl T.g_Doomed))) rfl rfl (fun _ _ _ _ _ hz hf => (pss_one (ps_ret (pe_and (pe_cmpR (op_neDK (K := K) rfl hr.units) (pv 4) (pe_lst pa_nil) (nomark _)) (pe_and (pe_cmpR op_eq (pv 3) pe_str (nomark _)) (pe_one (pe_cmpR op_eq (pe_ix (ix_listK (K := K) rfl) (pe_ix (ix_listK (K := K) rfl) (pv 4) (pe_un un_neg pe_int) (fun _ _ => rfl)) pe_int (fun _ _ => rfl)) (pe_xf (xfc T.e_Doomed) (no_Doomed_first T) hz hf (pv 5)) (nomark _)))))))) .nil))))
  (pss_cons (ps_if (PW.pt (pw_and (pt_cmpR (op_eqD hr.units) (pv 4) (pe_lst pa_nil) (nomark _)) (pw_and1 (pt_cmpR op_in_seq (pv 3) (pe_lst (pa_cons pe_str (pa_cons pe_str (pa_cons pe_str pa_nil)))) (by rfl))))) (pss_one (ps_expr (pe_bm PySem.F.plainAttrs_list PySem.F.slot_list_append PySem.F.type_list_append mt_append (pv 2) (pa_cons pe_str pa_nil)))) (pss_one (ps_if (PW.pt (pw_or (pt_cmpR (op_eqD hr.units) (pv 4) (pe_lst pa_nil) (nomark _)) (pw_or1 (pt_cmpR op_eq (pv 3) pe_str (nomark _))))) (pss_cons (ps_expr (pe_bm PySem.F.plainAttrs_list PySem.F.slot_list_append PySem.F.type_list_append mt_append (pv 1) (pa_cons (pe_lst (pa_cons (pe_lst (pa_cons pe_non (pa_cons (pe_lst pa_nil) pa_nil))) pa_nil)) pa_nil)))
  (pss_one (ps_expr (pe_bm PySem.F.plainAttrs_list PySem.F.slot_list_append PySem.F.type_list_append mt_append (pv 2) (pa_cons pe_str pa_nil))))) (pss_one (ps_if (pt_cmpR op_eq (pv 3) pe_str (nomark _)) (pss_cons (ps_expr (pe_bm PySem.F.plainAttrs_list PySem.F.slot_list_append PySem.F.type_list_append mt_append (pv 4) (pa_cons (pe_lst (pa_cons pe_non (pa_cons (pe_lst pa_nil) pa_nil))) pa_nil)))
  (pss_one (ps_expr (pe_bm PySem.F.plainAttrs_list PySem.F.slot_list_append PySem.F.type_list_append mt_append (pv 2) (pa_cons pe_str pa_nil))))) (pss_one (ps_if (pt_cmpR op_eq (pv 3) pe_str (nomark _)) (pss_cons (ps_expr (pe_bm PySem.F.plainAttrs_list PySem.F.slot_list_append PySem.F.type_list_append mt_append (pv 1) (pa_cons (pe_lst pa_nil) pa_nil)))
  (pss_one (ps_expr (pe_bm PySem.F.plainAttrs_list PySem.F.slot_list_append PySem.F.type_list_append mt_append (pv 2) (pa_cons pe_str pa_nil))))) (pss_one (ps_expr (pe_bm PySem.F.plainAttrs_list PySem.F.slot_list_append PySem.F.type_list_append mt_append (pv 2) (pa_cons pe_str pa_nil)))))))))))
  (pss_one (ps_ret pe_bl))))), ?_⟩
    dsimp only [cxOf]
    rcases g.top with ⟨st, rest, e1, e2⟩ | ⟨k0, y, rs, st, l, ls, rest, e1, e2, e3, e4⟩
    · -- no transaction
      subst e2
      have eD : enterD D m = aloneD D m := by unfold enterD; rw [e1]
      obtain ⟨q, Lr, hLs⟩ := I.tqs
      subst hLs
      have hp := I.mat.hp
      have i1 := rv_at (f := txV) (x := q) (l := Lr)
      have hx := I.dat.db
      rw [I.ed] at hx
      walk_at "rd"
      refine ⟨L, D, .str m, by rw [I.ed]; rfl, tm, I.dat, g.sm (by omega), fun H1 L1 hD1 f1 => ?_⟩
      have I1 := I.db hD1 f1
      rw [enterV_mode hmm, eD] at I1 ⊢
      unfold aloneD at I1 ⊢
      have sh0 : SeqAt.shaped (.list (txD [])) = true := by decide +kernel
      by_cases b1 : decide (V.str m = V.str "must") = true
      · rw [if_pos b1] at I1 ⊢
        intro dd gd
        refine ⟨true, T.e_Missing.te, fun _ x' hx' => ?_, (fun z => by cases z)⟩
        unfold wCl
        have I2 := I1.keep ((Same.refl H1).new (o := .xd (errF [.str m] ef_Missing [])) gd)
        generalize upd H1 dd (.xd (errF [.str m] ef_Missing [])) = H2 at I2 ⊢
        walk_at "rd"
        intro n3 g3
        have I3 := I2.keep ((Same.refl _).new (o := .lst []) g3)
        refine ⟨.list (txD []), .list [], dp_tx I3.tq, .lst (SqL.of upd_same) .nil, sh0, rfl, ?_⟩
        rw [eqv_tx]
        generalize upd H2 n3 (.lst []) = H3 at I3 ⊢
        have hp3 := I3.mat.hp
        have hs3 := I3.mat.hs
        walk_at "rd"
        rw [b1]
        exact k _ _ _ _ _ I3 (g.up (by omega))
      rw [if_neg b1] at I1 ⊢
      by_cases b2 : inV (V.str m) [.str "either", .str "never", .str "outside"] = true
      · rw [if_pos b2] at I1 ⊢
        walk_at "rd"
        intro n3 g3
        have I3 := I1.keep ((Same.refl _).new (o := .lst []) g3)
        refine ⟨.list (txD []), .list [], dp_tx I3.tq, .lst (SqL.of upd_same) .nil, sh0, rfl, ?_⟩
        rw [eqv_tx]
        generalize upd H1 n3 (.lst []) = H3 at I3 ⊢
        have hp3 := I3.mat.hp
        have hs3 := I3.mat.hs
        walk_at "rd"
        intro n4 g4
        have I4 := I3.keep ((Same.refl _).new (o := .lst [.str "either", .str "never", .str "outside"]) g4)
        have hn4 := upd_same (H := H3) (a := n4) (o := .lst [.str "either", .str "never", .str "outside"])
        generalize upd H3 n4 (.lst [.str "either", .str "never", .str "outside"]) = H4 at I4 hn4 ⊢
        walk_at "rd"
        have hs4 := I4.mat.hs
        rw [show (if false = true then !inV (V.str m) [V.str "either", V.str "never", V.str "outside"] else inV (V.str m) [V.str "either", V.str "never", V.str "outside"]) = inV (V.str m) [V.str "either", V.str "never", V.str "outside"] from rfl, b2]
        walk_at "rd"
        exact k _ _ _ _ _ (I4.pushS (z := "plain")) (g.plain (by have := g.wf; rw [e1] at this ⊢; exact .plain this))
      · rw [if_neg b2] at I1 ⊢
        walk_at "rd"
        intro n3 g3
        have I3 := I1.keep ((Same.refl _).new (o := .lst []) g3)
        refine ⟨.list (txD []), .list [], dp_tx I3.tq, .lst (SqL.of upd_same) .nil, sh0, rfl, ?_⟩
        rw [eqv_tx]
        generalize upd H1 n3 (.lst []) = H3 at I3 ⊢
        have hp3 := I3.mat.hp
        have hs3 := I3.mat.hs
        walk_at "rd"
        intro n4 g4
        have I4 := I3.keep ((Same.refl _).new (o := .lst [.str "either", .str "never", .str "outside"]) g4)
        have hn4 := upd_same (H := H3) (a := n4) (o := .lst [.str "either", .str "never", .str "outside"])
        generalize upd H3 n4 (.lst [.str "either", .str "never", .str "outside"]) = H4 at I4 hn4 ⊢
        walk_at "rd"
        rw [show (if false = true then !inV (V.str m) [V.str "either", V.str "never", V.str "outside"] else inV (V.str m) [V.str "either", V.str "never", V.str "outside"]) = inV (V.str m) [V.str "either", V.str "never", V.str "outside"] from rfl, Bool.eq_false_iff.mpr b2]
        walk_at "rd"
        intro n5 g5
        have I5 := I4.keep ((Same.refl _).new (o := .lst []) g5)
        refine ⟨.list (txD []), .list [], dp_tx I5.tq, .lst (SqL.of upd_same) .nil, sh0, rfl, ?_⟩
        rw [eqv_tx]
        generalize upd H4 n5 (.lst []) = H5 at I5 ⊢
        have hp5 := I5.mat.hp
        have hs5 := I5.mat.hs
        walk_at "rd"
        intro m1 f1
        walk_at "rd"
        intro m2 f2
        walk_at "rd"
        intro m3 f3
        have I6 := I5.pushT f1 f2 f3
        have hs6 := I6.mat.hs
        walk_at "rd"
        exact k _ _ _ _ _ (I6.pushS (z := "base")) g.begin
    · -- a transaction
      subst e2
      have eD : enterD D m = lvlD D m k0 y rs st := by unfold enterD; rw [e1]
      have sh0 : SeqAt.shaped (.list (txD (l :: ls))) = true := shaped_tx g.lvw
      obtain ⟨q, Lr, hLs⟩ := I.tqs
      subst hLs
      have hp := I.mat.hp
      have i1 := rv_at (f := txV) (x := q) (l := Lr)
      have hx := I.dat.db
      rw [I.ed] at hx
      walk_at "rd"
      refine ⟨L, D, .str m, by rw [I.ed]; rfl, tm, I.dat, g.sm (by omega), fun H1 L1 hD1 f1 => ?_⟩
      have I1 := I.db hD1 f1
      rw [enterV_mode hmm, eD] at I1 ⊢
      unfold lvlD at I1 ⊢
      by_cases b1 : inV (V.str m) [.str "never", .str "alone"] = true
      · rw [if_pos b1] at I1 ⊢
        intro dd gd
        refine ⟨false, T.x_Present_Missing, (fun z => by cases z), fun _ => ⟨true, T.e_Present.te, fun _ x' hx' => ?_, (fun z => by cases z)⟩⟩
        unfold wCl
        have I2 := I1.keep ((Same.refl H1).new (o := .xd (errF [.str m] ef_Present [])) gd)
        have hd2 := upd_same (H := H1) (a := dd) (o := .xd (errF [.str m] ef_Present []))
        generalize upd H1 dd (.xd (errF [.str m] ef_Present [])) = H2 at I2 hd2 ⊢
        walk_at "rd"
        intro n3 g3
        have I3 := I2.keep ((Same.refl _).new (o := .lst []) g3)
        refine ⟨.list (txD (l :: ls)), .list [], dp_tx I3.tq, .lst (SqL.of upd_same) .nil, sh0, rfl, ?_⟩
        rw [eqv_tx]
        generalize upd H2 n3 (.lst []) = H3 at I3 ⊢
        have hp3 := I3.mat.hp
        have hs3 := I3.mat.hs
        walk_at "rd"
        intro n4 g4
        have I4 := I3.keep ((Same.refl _).new (o := .lst [.str "never", .str "alone"]) g4)
        have hn4 := upd_same (H := H3) (a := n4) (o := .lst [.str "never", .str "alone"])
        generalize upd H3 n4 (.lst [.str "never", .str "alone"]) = H4 at I4 hn4 ⊢
        have hp4 := I4.mat.hp
        have hs4 := I4.mat.hs
        walk_at "rd"
        rw [show (if false = true then !inV (V.str m) [V.str "never", V.str "alone"] else inV (V.str m) [V.str "never", V.str "alone"]) = inV (V.str m) [V.str "never", V.str "alone"] from rfl, b1]
        walk_at "rd"
        exact k _ _ _ _ _ I4 (g.up (by omega))
      rw [if_neg b1] at I1 ⊢
      by_cases b2 : decide (V.str m = V.str "inner") = true
      · rw [if_pos b2] at I1 ⊢
        obtain ⟨la, lr, eq2, hla⟩ := I.tls
        cases y with
        | some y =>
          dsimp only at I1 ⊢
          intro dd gd
          refine ⟨false, T.x_Doomed_Missing, (fun z => by cases z), fun _ => ⟨false, T.x_Doomed_Present, (fun z => by cases z), fun _ => ⟨true, T.e_Doomed.te, fun _ x' hx' => ?_, (fun z => by cases z)⟩⟩⟩
          unfold wCl
          have I2 := I1.keep ((Same.refl H1).new (o := .xd (errF [.str y] ef_Doomed [])) gd)
          have hd2 := upd_same (H := H1) (a := dd) (o := .xd (errF [.str y] ef_Doomed []))
          generalize upd H1 dd (.xd (errF [.str y] ef_Doomed [])) = H2 at I2 hd2 ⊢
          walk_at "rd"
          intro n3 g3
          have I3 := I2.keep ((Same.refl _).new (o := .lst []) g3)
          refine ⟨.list (txD (l :: ls)), .list [], dp_tx I3.tq, .lst (SqL.of upd_same) .nil, sh0, rfl, ?_⟩
          rw [eqv_tx]
          have hd3 := upd_old (o := .lst []) hd2 g3
          generalize upd H2 n3 (.lst []) = H3 at I3 hd3 ⊢
          have tq3 := I3.tq
          obtain ⟨t1, t2⟩ := tq3
          rw [eq2] at t1 t2
          obtain ⟨t3, t4⟩ : LvAt H3 la l := by
            cases t2
            assumption
          rw [e3] at t3
          have i2 := rv_at (f := lvV) (x := la) (l := lr)
          have i3 : atI [oV (some y), V.ref la.2] 0 = some (oV (some y)) := rfl
          walk_at "rd"
          rw [b2]
          walk_at "rd"
          have z := k _ _ _ _ _ I3 (g.up (by omega))
          rw [← show decide (oV (some y) = V.str y) = true from decide_eq_true rfl] at z
          exact z
        | none =>
          dsimp only at I1 ⊢
          have hmi : m = "inner" := V.str.inj (of_decide_eq_true b2)
          subst hmi
          walk_at "rd"
          intro n3 g3
          have I3 := I1.keep ((Same.refl _).new (o := .lst []) g3)
          refine ⟨.list (txD (l :: ls)), .list [], dp_tx I3.tq, .lst (SqL.of upd_same) .nil, sh0, rfl, ?_⟩
          rw [eqv_tx]
          generalize upd H1 n3 (.lst []) = H3 at I3 ⊢
          have hp3 := I3.mat.hp
          have hs3 := I3.mat.hs
          walk_at "rd"
          intro n4 g4
          have I4 := I3.keep ((Same.refl _).new (o := .lst []) g4)
          refine ⟨.list (txD (l :: ls)), .list [], dp_tx I4.tq, .lst (SqL.of upd_same) .nil, sh0, rfl, ?_⟩
          rw [eqv_tx]
          generalize upd H3 n4 (.lst []) = H4 at I4 ⊢
          have hp4 := I4.mat.hp
          have hs4 := I4.mat.hs
          obtain ⟨qa, qv⟩ := q
          cases eq2
          have t4 := I4.tq.1
          dsimp only at t4
          rw [show txV (qa, la :: lr) = V.ref qa from rfl] at i1 ⊢
          walk_at "rd"
          intro m1 f1
          walk_at "rd"
          intro m2 f2
          have I5 := I4.pushL f1 f2
          have hs5 := I5.mat.hs
          have lq : (rv lvV (la :: lr)).length < sizeLine := by
            rw [rv_len, sizeLine_eq]
            have h1 := (g.wf.len.2 ⟨k0, none :: rs⟩ (by rw [e1]; exact List.mem_cons_self)).1
            have h2 := g.e
            have h3 : (la :: lr).length = (l :: ls).length := I4.tq.2.len
            have h4 : ls.length = rs.length := by rw [← e4, List.length_map]
            simp only [List.length_cons] at h1 h3 ⊢
            omega
          walk_at "rd"
          exact k _ _ _ _ _ (I5.pushS (z := "level")) (g.addLevel e1 rfl)
      rw [if_neg b2] at I1 ⊢
      by_cases b3 : decide (V.str m = V.str "apart") = true
      · rw [if_pos b3] at I1 ⊢
        have hmi : m = "apart" := V.str.inj (of_decide_eq_true b3)
        subst hmi
        walk_at "rd"
        intro n3 g3
        have I3 := I1.keep ((Same.refl _).new (o := .lst []) g3)
        refine ⟨.list (txD (l :: ls)), .list [], dp_tx I3.tq, .lst (SqL.of upd_same) .nil, sh0, rfl, ?_⟩
        rw [eqv_tx]
        generalize upd H1 n3 (.lst []) = H3 at I3 ⊢
        have hp3 := I3.mat.hp
        have hs3 := I3.mat.hs
        walk_at "rd"
        intro n4 g4
        have I4 := I3.keep ((Same.refl _).new (o := .lst []) g4)
        refine ⟨.list (txD (l :: ls)), .list [], dp_tx I4.tq, .lst (SqL.of upd_same) .nil, sh0, rfl, ?_⟩
        rw [eqv_tx]
        generalize upd H3 n4 (.lst []) = H4 at I4 ⊢
        have hp4 := I4.mat.hp
        have hs4 := I4.mat.hs
        walk_at "rd"
        intro m1 f1
        walk_at "rd"
        intro m2 f2
        walk_at "rd"
        intro m3 f3
        have I5 := I4.pushT f1 f2 f3
        have hs5 := I5.mat.hs
        walk_at "rd"
        exact k _ _ _ _ _ (I5.pushS (z := "base")) g.begin
      rw [if_neg b3] at I1 ⊢
      by_cases b4 : decide (V.str m = V.str "outside") = true
      · rw [if_pos b4] at I1 ⊢
        have hmi : m = "outside" := V.str.inj (of_decide_eq_true b4)
        subst hmi
        walk_at "rd"
        intro n3 g3
        have I3 := I1.keep ((Same.refl _).new (o := .lst []) g3)
        refine ⟨.list (txD (l :: ls)), .list [], dp_tx I3.tq, .lst (SqL.of upd_same) .nil, sh0, rfl, ?_⟩
        rw [eqv_tx]
        generalize upd H1 n3 (.lst []) = H3 at I3 ⊢
        have hp3 := I3.mat.hp
        have hs3 := I3.mat.hs
        walk_at "rd"
        intro n4 g4
        have I4 := I3.keep ((Same.refl _).new (o := .lst []) g4)
        refine ⟨.list (txD (l :: ls)), .list [], dp_tx I4.tq, .lst (SqL.of upd_same) .nil, sh0, rfl, ?_⟩
        rw [eqv_tx]
        generalize upd H3 n4 (.lst []) = H4 at I4 ⊢
        have hp4 := I4.mat.hp
        have hs4 := I4.mat.hs
        walk_at "rd"
        intro m1 f1
        have I5 := I4.pushN f1
        have hs5 := I5.mat.hs
        walk_at "rd"
        exact k _ _ _ _ _ (I5.pushS (z := "outside")) (g.outside e1)
      rw [if_neg b4] at I1 ⊢
      walk_at "rd"
      intro n3 g3
      have I3 := I1.keep ((Same.refl _).new (o := .lst []) g3)
      refine ⟨.list (txD (l :: ls)), .list [], dp_tx I3.tq, .lst (SqL.of upd_same) .nil, sh0, rfl, ?_⟩
      rw [eqv_tx]
      generalize upd H1 n3 (.lst []) = H3 at I3 ⊢
      have hp3 := I3.mat.hp
      have hs3 := I3.mat.hs
      walk_at "rd"
      intro n4 g4
      have I4 := I3.keep ((Same.refl _).new (o := .lst []) g4)
      refine ⟨.list (txD (l :: ls)), .list [], dp_tx I4.tq, .lst (SqL.of upd_same) .nil, sh0, rfl, ?_⟩
      rw [eqv_tx]
      generalize upd H3 n4 (.lst []) = H4 at I4 ⊢
      have hp4 := I4.mat.hp
      have hs4 := I4.mat.hs
      walk_at "rd"
      rw [Bool.eq_false_iff.mpr b3]
      walk_at "rd"
      rw [Bool.eq_false_iff.mpr b2]
      walk_at "rd"
      rw [Bool.eq_false_iff.mpr b4]
      walk_at "rd"
      exact k _ _ _ _ _ (I4.pushS (z := "joined")) (g.plain (by have := g.wf; rw [e1] at this ⊢; exact .joined this))
/-! ### the law leaves -/
theorem kb_leave' (T : Txt K mg a d) : ∃ its mv : List Value, KBn K d.Database_leave ["self", "error", "commits"] 2 ["commits"] (fun us ws => us ++ ws) (fun vs zs => vs ++ zs) :=
  T.Database_leave.kbinds (ps := ["self", "error", "commits"]) 2 ["commits"] [] (fun us _ _ ws => us ++ ws) (by simp) (by simp) (by simp) (fun a _ _ b => a.append b)
    (fun T D doc pm an cdv ct us its mv ws hu hi hm hw => match us, hu, its, hi, mv, hm, ws, hw with | [_, _], _, [_], _, [], _, [_], _ => ⟨_, rfl, rfl⟩)
def spL7 (a : Ad) : Sp := fun vs H Q _ => ∃ H0 pp x p so L D Ls stk c n err b, vs = [.ref x, .ref p, .ref so, oV err, .bl b] ∧ (∀ z, err = some z → IsWord z) ∧ D.entered ≠ [] ∧ K7 a H0 pp x p so H L D Ls stk D.entered c ∧ A7 D stk n ∧ n ≤ 2000 ∧
  ∀ H' L' D' Ls' stk', K7 a H0 pp x p so H' L' D' Ls' stk' D'.entered c → A7 D' stk' n → Q (.bl true) H'
theorem word_thing' {H : Hp} {err : Option Str} (h : ∀ z, err = some z → IsWord z) : Thing H (oV err) := by
  cases err with
  | none => exact .non
  | some z => exact word_thing (h z rfl)
theorem A7.inside {D : Db} {st : List (Option Tx)} {ls : List Lvl} {rest : List (List Lvl)} {n : Nat} {es : List Str} (g : A7 D (ls :: rest) n) (e1 : D.stack = none :: st) (hw : Wf es st) (he : es.length ≤ n) : A7 { D with stack := st, entered := es } rest n := by
  have tx := g.tx
  have lt := g.lt
  have di := g.dist
  have w := g.w
  rw [e1] at tx lt di w
  cases tx with
  | cons _ tx =>
    refine ⟨hw, g.fl, he, g.r, tx, fun x hx => lt x (List.mem_cons_of_mem _ hx), (List.pairwise_cons.mp di).2, g.hl, fun x hx => w x (List.mem_cons_of_mem _ hx), g.wr, fun m hm => g.wl m (List.mem_cons_of_mem _ hm), ?_, g.op⟩
    have := g.tot
    unfold totL at this ⊢
    simp only [List.map_cons, List.sum_cons] at this
    omega
theorem K7.lvne {a : Ad} {H0 H : Hp} {pp x p so qa : Addr} {L : Lay} {D : Db} {la : LvA} {lr : List LvA} {Ls : List TxA} {stk : List (List Lvl)} {ss : List Str} {c : Nat} (h : K7 a H0 pp x p so H L D ((qa, la :: lr) :: Ls) stk ss c) : la.1 ≠ qa ∧ la.2 ≠ qa := by
  have nd : (p :: so :: qa :: la.1 :: (lr.map (·.1) ++ Ls.flatMap mutsT)).Nodup := h.mat.nd
  refine ⟨fun e => ?_, fun e => h.mat.im la.2 (mem_imms.mpr (.inl List.mem_cons_self)) (e ▸ mem_muts.mpr (.inl List.mem_cons_self))⟩
  simp [e] at nd
theorem ok_law_leave (T : Txt K mg a d) : FnOk P w K mg base CX0 4 a.law_leave d.law_leave ["_law_db", "_law_stack", "_law_sorts", "_law_error", "_law_goes"] (spL7 a) := by
  have G_Database_leave : FnOk P w K mg base (L2.CX P w) 3 a.Database_leave d.Database_leave ["self", "error", "commits"] (spLeave a) := ok_Database_leave T
  obtain ⟨_, _, kb_leave⟩ := kb_leave' T
  refine T.law_leave.ok sc_law_leave (fun vs H Q E h => ?_) (fun cdv A outer s H vs Q E hr h => ?_)
  · obtain ⟨H0, pp, x, p, so, L, D, Ls, stk, c, n, err, b, rfl, _⟩ := h
    rfl
  · obtain ⟨H0, pp, x, p, so, L, D, Ls, stk, c, n, err, b, rfl, hz, hne, I, g, hn, k⟩ := h
    have tm : Thing H (oV err) := word_thing' hz
    refine ⟨_, (pss_cons (ps_set (i := 5) sc_law_leave.nd rfl (Or.inl rfl) pe_str)
  (pss_cons (ps_tryA rfl rfl sc_law_leave.nd takes0 (fun W pn xe tk po => (pss_one (ps_expr (pe_methK (pv 0) T.k_Database T.m_Database_leave G_Database_leave (hr.mono (by decide)) kb_leave (fun σ => passAt tk σ) (pa_cons (pv 3) pa_nil) (pk_cons (pv 4) pk_nil))))) (.consA (i := 6) (.intro (by rfl) (And.intro (by decide) (Or.inl T.g_Doomed))) rfl rfl (fun _ _ _ _ _ hz hf => (pss_one (ps_set (i := 5) sc_law_leave.nd rfl (Or.inl rfl) (pe_xf (xfc T.e_Doomed) (no_Doomed_word T) hz hf (pv 6))))) (.consA (i := 6) (.intro (by rfl) (And.intro (by decide) (Or.inl T.g_Refused))) rfl rfl (fun _ _ _ _ _ hz hf => (pss_one (ps_set (i := 5) sc_law_leave.nd rfl (Or.inl rfl) (pe_xf (xfc T.e_Refused) (no_Refused_word T) hz hf (pv 6))))) .nil)))
  (pss_cons (ps_set (i := 7) sc_law_leave.nd rfl (Or.inl rfl) (pe_bm0 PySem.F.plainAttrs_list PySem.F.slot_list_pop PySem.F.type_list_pop mt_pop (pv 2)))
  (pss_cons (ps_if (PW.pt (pw_and (pt_cmpR op_eq (pv 7) pe_str (nomark _)) (pw_and (pt_cmpR op_notN (pv 3) pe_non (nomark _)) (pw_and1 (pt_cmpR op_isN (pe_ix ix_list (pe_ix ix_list (pe_ix ix_list (pv 1) (pe_un un_neg pe_int) (fun _ _ => rfl)) (pe_un un_neg pe_int) (fun _ _ => rfl)) pe_int (fun _ _ => rfl)) pe_non (nomark _)))))) (pss_one (ps_asg (pv 3) (pg_sub (pe_ix ix_list (pe_ix ix_list (pv 1) (pe_un un_neg pe_int) (fun _ _ => rfl)) (pe_un un_neg pe_int) (fun _ _ => rfl)) pe_int set_list))) pss_nil)
  (pss_cons (ps_if (pt_cmpR op_eq (pv 7) pe_str (nomark _)) (pss_one (ps_expr (pe_bm0 PySem.F.plainAttrs_list PySem.F.slot_list_pop PySem.F.type_list_pop mt_pop (pv 1)))) pss_nil)
  (pss_cons (ps_if (pt_cmpR op_notIn_seq (pv 7) (pe_lst (pa_cons pe_str (pa_cons pe_str pa_nil))) (by rfl)) (pss_one (ps_ret (pe_cmpR op_eq (pv 5) pe_str (nomark _)))) pss_nil)
  (pss_cons (ps_asg (pe_bm0 PySem.F.plainAttrs_list PySem.F.slot_list_pop PySem.F.type_list_pop mt_pop (pe_ix ix_list (pv 1) (pe_un un_neg pe_int) (fun _ _ => rfl))) (pg_lst rfl (pgs_cons (pg_name (i := 8) sc_law_leave.nd rfl (Or.inl rfl)) (pgs_cons (pg_name (i := 9) sc_law_leave.nd rfl (Or.inl rfl)) pgs_nil))))
  (pss_cons (ps_if (pt_cmpR op_eq (pv 7) pe_str (nomark _)) (pss_one (ps_expr (pe_bm0 PySem.F.plainAttrs_list PySem.F.slot_list_pop PySem.F.type_list_pop mt_pop (pv 1)))) (pss_one (ps_if (PW.pt (pw_and (pt_cmpR op_isN (pv 3) pe_non (nomark _)) (pw_and1 (pt_cmpR op_isN (pv 8) pe_non (nomark _))))) (pss_one (ps_asg (pe_op op_cat (pe_ix ix_list (pe_ix ix_list (pe_ix ix_list (pv 1) (pe_un un_neg pe_int) (fun _ _ => rfl)) (pe_un un_neg pe_int) (fun _ _ => rfl)) pe_int (fun _ _ => rfl)) (pv 9)) (pg_sub (pe_ix ix_list (pe_ix ix_list (pv 1) (pe_un un_neg pe_int) (fun _ _ => rfl)) (pe_un un_neg pe_int) (fun _ _ => rfl)) pe_int set_list))) pss_nil)))
  (pss_cons (ps_if (pt_cmpR op_notN (pv 3) pe_non (nomark _)) (pss_one (ps_ret (pe_cmpR op_eq (pv 5) pe_str (nomark _)))) pss_nil)
  (pss_cons (ps_if (pt_cmpR op_notN (pv 8) pe_non (nomark _)) (pss_one (ps_ret (pe_cmpR op_eq (pv 5) pe_str (nomark _)))) pss_nil)
  (pss_one (ps_ret (pe_cmpR op_eq (pv 5) (pe_ifExp (PW.pt (pw_and (pt_cmpR op_eq (pv 7) pe_str (nomark _)) (pw_and1 (pt_not (pt_val (pv 4)))))) pe_str pe_str) (nomark _)))))))))))))), ?_⟩
    dsimp only [cxOf]
    have hx := I.dat.db
    rw [I.ed] at hx
    walk_at "rd"
    refine ⟨L, D, oV err, b, by rw [I.ed]; rfl, tm, I.dat, g.sm (by omega), by rw [g.fl]; exact Int.le_refl 0, g.wf, fun H1 L1 hD1 f1 => ?_⟩
    have I1 := I.db hD1 f1
    have eL : leaveD D err b = leaveW D err b := by
      unfold leaveD
      rw [if_neg]
      rw [g.fl]
      cases he : D.entered with
      | nil => exact absurd he hne
      | cons z es => simp only [List.length_cons]; omega
    rw [leaveV_o hz, eL] at I1 ⊢
    clear f1 hD1 eL
    obtain ⟨rows, stack, entered, floor, opened⟩ := D
    have hw := g.wf
    dsimp only at hw I1 hne hx ⊢
    have ge := g.e
    cases hw with
    | nil => exact absurd rfl hne
    | @plain es st h =>
      have eW : leaveW ⟨rows, none :: st, "plain" :: es, floor, opened⟩ err b = (⟨rows, none :: st, es, floor, opened⟩, none) := rfl
      rw [eW] at I1 ⊢
      clear eW
      have hs1 := I1.mat.hs
      have e0 := rv_pop (f := V.str) (x := "plain") (l := es)
      walk_at "rd"
      have I2 := I1.popS
      generalize upd H1 so (.lst (rv V.str ("plain" :: es)).dropLast) = H2 at I2 ⊢
      intro n2 g2
      walk_at "rd"
      exact k _ _ _ _ _ (I2.keep ((Same.refl _).new g2)) { g with wf := h, e := by show es.length ≤ n; simp only [List.length_cons] at ge; omega }
    | @outside es st x1 h =>
      have eW : leaveW ⟨rows, none :: some x1 :: st, "outside" :: es, floor, opened⟩ err b = (⟨rows, some x1 :: st, es, floor, opened⟩, none) := rfl
      rw [eW] at I1 ⊢
      clear eW
      have hs1 := I1.mat.hs
      have e0 := rv_pop (f := V.str) (x := "outside") (l := es)
      rcases g.top with ⟨st', rest, e1, e2⟩ | ⟨k0, y, rs, st', l, ls, rest, e1, e2, e3, e4⟩
      · subst e2
        obtain ⟨q, Lr, hLs⟩ := I1.tqs
        subst hLs
        have i1 := rv_pop (f := txV) (x := q) (l := Lr)
        walk_at "rd"
        have I2 := I1.popS
        have hp2 := I2.mat.hp
        generalize upd H1 so (.lst (rv V.str ("outside" :: es)).dropLast) = H2 at I2 hp2 ⊢
        walk_at "rd"
        have I3 := I2.popT
        generalize upd H2 p (.lst (rv txV (q :: Lr)).dropLast) = H3 at I3 ⊢
        intro n2 g2
        walk_at "rd"
        exact k _ _ _ _ _ (I3.keep ((Same.refl _).new g2)) (g.inside rfl h (by simp only [List.length_cons] at ge; omega))
      · cases e1
    | @base es st kn y h =>
      have eW : leaveW ⟨rows, some ⟨kn, [y]⟩ :: st, "base" :: es, floor, opened⟩ err b = (⟨rows.map (endTRow kn (if (err.isNone && y.isNone && b) = true then "kept" else "undone")), st, es, floor, opened⟩, endE err y b) := rfl
      rw [eW] at I1 ⊢
      clear eW
      rcases g.top with ⟨st', rest, e1, e2⟩ | ⟨k0, y', rs, st', l, ls, rest, e1, e2, e3, e4⟩
      · cases e1
      have ge' : es.length ≤ n := by simp only [List.length_cons] at ge; omega
      cases e1
      cases ls with
      | cons _ _ => cases e4
      | nil =>
        subst e2
        obtain ⟨q, Lr, hLs⟩ := I1.tqs
        subst hLs
        obtain ⟨qa, lv⟩ := q
        obtain ⟨la, lr, eq2, _⟩ := I1.tls
        cases eq2
        have hlr : lr = [] := by
          have := I1.tq.2.len
          simp only [List.length_cons, List.length_nil] at this
          exact List.eq_nil_of_length_eq_zero (by omega)
        subst hlr
        have fin : ∀ {f : Str}, A7 (⟨rows.map (endTRow kn f), st, es, floor, opened⟩ : Db) rest n := fun {f} => g.endT rfl rfl h ge'
        generalize (if (err.isNone && y.isNone && b) = true then ("kept" : Str) else "undone") = fate at I1
        have hs1 := I1.mat.hs
        have e0 := rv_pop (f := V.str) (x := "base") (l := es)
        have i1 := rv_at (f := txV) (x := (qa, [la])) (l := Lr)
        have i2 := rv_pop (f := lvV) (x := la) (l := [])
        have i3 := rv_pop (f := txV) (x := (qa, [])) (l := Lr)
        rw [show txV (qa, [la]) = V.ref qa from rfl] at i1
        rw [show lvV la = V.ref la.1 from rfl] at i2
        cases err with
        | some ez =>
          walk_at "rd"
          have I2 := I1.popS
          have hp2 := I2.mat.hp
          have tq2 := I2.tq.1
          dsimp only at tq2
          generalize upd H1 so (.lst (rv V.str ("base" :: es)).dropLast) = H2 at I2 hp2 tq2 ⊢
          intro n2 g2
          have I3 := I2.keep ((Same.refl _).new (o := .lst [.str "base", .str "level"]) g2)
          have hn3 := upd_same (H := H2) (a := n2) (o := .lst [.str "base", .str "level"])
          generalize upd H2 n2 (.lst [.str "base", .str "level"]) = H3 at I3 hn3 ⊢
          have hp3 := I3.mat.hp
          have tq3 := I3.tq.1
          dsimp only at tq3
          obtain ⟨_, _, e5, la1, la2⟩ := I3.tls
          cases e5
          rw [e3] at la1
          obtain ⟨ne1, ne2⟩ := I3.lvne
          have I4 := I3.popL
          have hp4 := I4.mat.hp
          
          have la14 := upd_oth (o := .lst (rv lvV [la]).dropLast) ne1 la1
          have I5 := I4.popT
          walk_at "rd"
          generalize upd (upd H3 qa (.lst (rv lvV [la]).dropLast)) p (.lst (rv txV ((qa, []) :: Lr)).dropLast) = H5 at I5 ⊢
          walk_at "rd"
          exact k _ _ _ _ _ I5 fin
        | none =>
          cases y with
          | some yz =>
            intro dd gd
            refine ⟨true, T.e_Doomed.te, fun _ x' hx' => ?_, (fun z => by cases z)⟩
            unfold wCl
            have I0 := I1.keep ((Same.refl H1).new (o := .xd (errF [.str yz] ef_Doomed [])) gd)
            have hd0 := upd_same (H := H1) (a := dd) (o := .xd (errF [.str yz] ef_Doomed []))
            generalize upd H1 dd (.xd (errF [.str yz] ef_Doomed [])) = H9 at I0 hd0 ⊢
            have hs9 := I0.mat.hs
            walk_at "rd"
            have I2 := I0.popS
            have hp2 := I2.mat.hp
            have tq2 := I2.tq.1
            dsimp only at tq2
            generalize upd H9 so (.lst (rv V.str ("base" :: es)).dropLast) = H2 at I2 hp2 tq2 ⊢
            intro n2 g2
            have I3 := I2.keep ((Same.refl _).new (o := .lst [.str "base", .str "level"]) g2)
            have hn3 := upd_same (H := H2) (a := n2) (o := .lst [.str "base", .str "level"])
            generalize upd H2 n2 (.lst [.str "base", .str "level"]) = H3 at I3 hn3 ⊢
            have hp3 := I3.mat.hp
            have tq3 := I3.tq.1
            dsimp only at tq3
            obtain ⟨_, _, e5, la1, la2⟩ := I3.tls
            cases e5
            rw [e3] at la1
            obtain ⟨ne1, ne2⟩ := I3.lvne
            have I4 := I3.popL
            have hp4 := I4.mat.hp
            
            have la14 := upd_oth (o := .lst (rv lvV [la]).dropLast) ne1 la1
            have I5 := I4.popT
            walk_at "rd"
            generalize upd (upd H3 qa (.lst (rv lvV [la]).dropLast)) p (.lst (rv txV ((qa, []) :: Lr)).dropLast) = H5 at I5 ⊢
            walk_at "rd"
            exact k _ _ _ _ _ I5 fin
          | none =>
            cases b with
            | true =>
              walk_at "rd"
              have I2 := I1.popS
              have hp2 := I2.mat.hp
              have tq2 := I2.tq.1
              dsimp only at tq2
              generalize upd H1 so (.lst (rv V.str ("base" :: es)).dropLast) = H2 at I2 hp2 tq2 ⊢
              intro n2 g2
              have I3 := I2.keep ((Same.refl _).new (o := .lst [.str "base", .str "level"]) g2)
              have hn3 := upd_same (H := H2) (a := n2) (o := .lst [.str "base", .str "level"])
              generalize upd H2 n2 (.lst [.str "base", .str "level"]) = H3 at I3 hn3 ⊢
              have hp3 := I3.mat.hp
              have tq3 := I3.tq.1
              dsimp only at tq3
              obtain ⟨_, _, e5, la1, la2⟩ := I3.tls
              cases e5
              rw [e3] at la1
              obtain ⟨ne1, ne2⟩ := I3.lvne
              have I4 := I3.popL
              have hp4 := I4.mat.hp
              
              have la14 := upd_oth (o := .lst (rv lvV [la]).dropLast) ne1 la1
              have I5 := I4.popT
              walk_at "rd"
              generalize upd (upd H3 qa (.lst (rv lvV [la]).dropLast)) p (.lst (rv txV ((qa, []) :: Lr)).dropLast) = H5 at I5 ⊢
              walk_at "rd"
              exact k _ _ _ _ _ I5 fin
            | false =>
              intro dd gd
              refine ⟨false, T.x_Refused_Doomed, (fun z => by cases z), fun _ => ⟨true, T.e_Refused.te, fun _ x' hx' => ?_, (fun z => by cases z)⟩⟩
              unfold wCl
              have I0 := I1.keep ((Same.refl H1).new (o := .xd (errF [] ef_Refused [])) gd)
              have hd0 := upd_same (H := H1) (a := dd) (o := .xd (errF [] ef_Refused []))
              generalize upd H1 dd (.xd (errF [] ef_Refused [])) = H9 at I0 hd0 ⊢
              have hs9 := I0.mat.hs
              walk_at "rd"
              have I2 := I0.popS
              have hp2 := I2.mat.hp
              have tq2 := I2.tq.1
              dsimp only at tq2
              generalize upd H9 so (.lst (rv V.str ("base" :: es)).dropLast) = H2 at I2 hp2 tq2 ⊢
              intro n2 g2
              have I3 := I2.keep ((Same.refl _).new (o := .lst [.str "base", .str "level"]) g2)
              have hn3 := upd_same (H := H2) (a := n2) (o := .lst [.str "base", .str "level"])
              generalize upd H2 n2 (.lst [.str "base", .str "level"]) = H3 at I3 hn3 ⊢
              have hp3 := I3.mat.hp
              have tq3 := I3.tq.1
              dsimp only at tq3
              obtain ⟨_, _, e5, la1, la2⟩ := I3.tls
              cases e5
              rw [e3] at la1
              obtain ⟨ne1, ne2⟩ := I3.lvne
              have I4 := I3.popL
              have hp4 := I4.mat.hp
              
              have la14 := upd_oth (o := .lst (rv lvV [la]).dropLast) ne1 la1
              have I5 := I4.popT
              walk_at "rd"
              generalize upd (upd H3 qa (.lst (rv lvV [la]).dropLast)) p (.lst (rv txV ((qa, []) :: Lr)).dropLast) = H5 at I5 ⊢
              walk_at "rd"
              exact k _ _ _ _ _ I5 fin
    | @level es st kn y z rs h =>
      have eW : leaveW ⟨rows, some ⟨kn, y :: z :: rs⟩ :: st, "level" :: es, floor, opened⟩ err b = (⟨rows.map (endLRow kn ((z :: rs).length : Int) (err.isNone && y.isNone)), some ⟨kn, z :: rs⟩ :: st, es, floor, opened⟩, endE err y true) := rfl
      rw [eW] at I1 ⊢
      clear eW
      rcases g.top with ⟨st', rest, e1, e2⟩ | ⟨k0, y', rs', st', l, ls, rest, e1, e2, e3, e4⟩
      · cases e1
      have ge' : es.length ≤ n := by simp only [List.length_cons] at ge; omega
      cases e1
      cases ls with
      | nil => cases e4
      | cons m ls =>
        subst e2
        obtain ⟨q, Lr, hLs⟩ := I1.tqs
        subst hLs
        obtain ⟨qa, lv⟩ := q
        obtain ⟨la, lr, eq2, _⟩ := I1.tls
        cases eq2
        cases lr with
        | nil =>
          have := I1.tq.2.len
          simp only [List.length_cons, List.length_nil] at this
          omega
        | cons lb lr =>
          have fin0 : ∀ {ok : Bool}, A7 (⟨rows.map (endLRow kn ((z :: rs).length : Int) ok), some ⟨kn, z :: rs⟩ :: st, es, floor, opened⟩ : Db) _ n := fun {ok} => g.endL (ok := ok) rfl rfl h ge'
          have hs1 := I1.mat.hs
          have e0 := rv_pop (f := V.str) (x := "level") (l := es)
          have i1 := rv_at (f := txV) (x := (qa, la :: lb :: lr)) (l := Lr)
          have i2 := rv_pop (f := lvV) (x := la) (l := (lb :: lr))
          rw [show txV (qa, la :: lb :: lr) = V.ref qa from rfl] at i1
          rw [show lvV la = V.ref la.1 from rfl] at i2
          cases err with
          | some ez =>
            have fin := fin0 (ok := false)
            walk_at "rd"
            have I2 := I1.popS
            have hp2 := I2.mat.hp
            have tq2 := I2.tq.1
            dsimp only at tq2
            generalize upd H1 so (.lst (rv V.str ("level" :: es)).dropLast) = H2 at I2 hp2 tq2 ⊢
            intro n2 g2
            have I3 := I2.keep ((Same.refl _).new (o := .lst [.str "base", .str "level"]) g2)
            have hn3 := upd_same (H := H2) (a := n2) (o := .lst [.str "base", .str "level"])
            generalize upd H2 n2 (.lst [.str "base", .str "level"]) = H3 at I3 hn3 ⊢
            have hp3 := I3.mat.hp
            have tq3 := I3.tq.1
            dsimp only at tq3
            obtain ⟨_, _, e5, la1, la2⟩ := I3.tls
            cases e5
            rw [e3] at la1
            obtain ⟨ne1, ne2⟩ := I3.lvne
            have I4 := I3.popL
            have hp4 := I4.mat.hp
            
            have la14 := upd_oth (o := .lst (rv lvV (la :: lb :: lr)).dropLast) ne1 la1
            have la24 := upd_oth (o := .lst (rv lvV (la :: lb :: lr)).dropLast) ne2 la2
            walk_at "rd"
            generalize upd H3 qa (.lst (rv lvV (la :: lb :: lr)).dropLast) = H4 at I4 hp4 la14 la24 ⊢
            
            walk_at "rd"
            exact k _ _ _ _ _ I4 fin
          | none =>
            cases y with
            | some yz =>
              have fin := fin0 (ok := false)
              intro dd gd
              refine ⟨true, T.e_Doomed.te, fun _ x' hx' => ?_, (fun z => by cases z)⟩
              unfold wCl
              have I0 := I1.keep ((Same.refl H1).new (o := .xd (errF [.str yz] ef_Doomed [])) gd)
              have hd0 := upd_same (H := H1) (a := dd) (o := .xd (errF [.str yz] ef_Doomed []))
              generalize upd H1 dd (.xd (errF [.str yz] ef_Doomed [])) = H9 at I0 hd0 ⊢
              have hs9 := I0.mat.hs
              walk_at "rd"
              have I2 := I0.popS
              have hp2 := I2.mat.hp
              have tq2 := I2.tq.1
              dsimp only at tq2
              generalize upd H9 so (.lst (rv V.str ("level" :: es)).dropLast) = H2 at I2 hp2 tq2 ⊢
              intro n2 g2
              have I3 := I2.keep ((Same.refl _).new (o := .lst [.str "base", .str "level"]) g2)
              have hn3 := upd_same (H := H2) (a := n2) (o := .lst [.str "base", .str "level"])
              generalize upd H2 n2 (.lst [.str "base", .str "level"]) = H3 at I3 hn3 ⊢
              have hp3 := I3.mat.hp
              have tq3 := I3.tq.1
              dsimp only at tq3
              obtain ⟨_, _, e5, la1, la2⟩ := I3.tls
              cases e5
              rw [e3] at la1
              obtain ⟨ne1, ne2⟩ := I3.lvne
              have I4 := I3.popL
              have hp4 := I4.mat.hp
              
              have la14 := upd_oth (o := .lst (rv lvV (la :: lb :: lr)).dropLast) ne1 la1
              have la24 := upd_oth (o := .lst (rv lvV (la :: lb :: lr)).dropLast) ne2 la2
              walk_at "rd"
              generalize upd H3 qa (.lst (rv lvV (la :: lb :: lr)).dropLast) = H4 at I4 hp4 la14 la24 ⊢
              
              walk_at "rd"
              exact k _ _ _ _ _ I4 fin
            | none =>
              have fin := fin0 (ok := true)
              walk_at "rd"
              have I2 := I1.popS
              have hp2 := I2.mat.hp
              have tq2 := I2.tq.1
              dsimp only at tq2
              generalize upd H1 so (.lst (rv V.str ("level" :: es)).dropLast) = H2 at I2 hp2 tq2 ⊢
              intro n2 g2
              have I3 := I2.keep ((Same.refl _).new (o := .lst [.str "base", .str "level"]) g2)
              have hn3 := upd_same (H := H2) (a := n2) (o := .lst [.str "base", .str "level"])
              generalize upd H2 n2 (.lst [.str "base", .str "level"]) = H3 at I3 hn3 ⊢
              have hp3 := I3.mat.hp
              have tq3 := I3.tq.1
              dsimp only at tq3
              obtain ⟨_, _, e5, la1, la2⟩ := I3.tls
              cases e5
              rw [e3] at la1
              obtain ⟨ne1, ne2⟩ := I3.lvne
              have I4 := I3.popL
              have hp4 := I4.mat.hp
              
              have la14 := upd_oth (o := .lst (rv lvV (la :: lb :: lr)).dropLast) ne1 la1
              have la24 := upd_oth (o := .lst (rv lvV (la :: lb :: lr)).dropLast) ne2 la2
              have tq4 := I4.tq.1
              dsimp only at tq4
              obtain ⟨_, _, e6, lb1, lb2⟩ := I4.tls
              cases e6
              have i5 := rv_at (f := txV) (x := (qa, lb :: lr)) (l := Lr)
              have i6 := rv_at (f := lvV) (x := lb) (l := lr)
              rw [show txV (qa, lb :: lr) = V.ref qa from rfl] at i5
              rw [show lvV lb = V.ref lb.1 from rfl] at i6
              have i7 : atI [oV m.rsn, V.ref lb.2] 1 = some (V.ref lb.2) := rfl
              have s1 : (m.recs.map V.str ++ l.recs.map V.str).length < sizeLine := by
                rw [List.length_append, List.length_map, List.length_map, sizeLine_eq]
                have := g.tot
                unfold totL at this
                simp only [List.map_cons, List.sum_cons] at this
                omega
              walk_at "rd"
              rw [← List.map_append]
              generalize upd H3 qa (.lst (rv lvV (la :: lb :: lr)).dropLast) = H4 at I4 hp4 la14 la24 tq4 lb1 lb2 ⊢
              refine ⟨by rw [List.length_append] at s1; exact Nat.le_of_lt s1, fun n4 g4 => ?_⟩
              have I5 := I4.setN (rs := m.recs ++ l.recs) g4
              have I6 := I4.keep ((Same.refl _).new (o := .lst ((m.recs ++ l.recs).map V.str)) g4)
              have hp6 := I6.mat.hp
              have tq6 := I6.tq.1
              dsimp only at tq6
              obtain ⟨_, _, e7, lb16, lb26⟩ := I6.tls
              cases e7
              generalize upd H4 n4 (.lst ((m.recs ++ l.recs).map V.str)) = H6 at I6 I5 hp6 tq6 lb16 lb26 ⊢
              have i8 : ixN [oV m.rsn, V.ref lb.2].length 1 = some 1 := rfl
              walk_at "rd"
              exact k _ _ _ _ _ I5 fin
    | @joined es st kn y rs h =>
      rcases g.top with ⟨st', rest, e1, e2⟩ | ⟨k0, y', rs', st', l, ls, rest, e1, e2, e3, e4⟩
      · cases e1
      have ge' : es.length ≤ n := by simp only [List.length_cons] at ge; omega
      cases e1
      subst e2
      obtain ⟨q, Lr, hLs⟩ := I1.tqs
      subst hLs
      obtain ⟨qa, lv⟩ := q
      obtain ⟨la, lr, eq2, _⟩ := I1.tls
      cases eq2
      have e0 := rv_pop (f := V.str) (x := "joined") (l := es)
      have i1 := rv_at (f := txV) (x := (qa, la :: lr)) (l := Lr)
      have i2 := rv_at (f := lvV) (x := la) (l := lr)
      rw [show txV (qa, la :: lr) = V.ref qa from rfl] at i1
      rw [show lvV la = V.ref la.1 from rfl] at i2
      have i3 : atI [oV y, V.ref la.2] 0 = some (oV y) := rfl
      have i4 : ixN [oV y, V.ref la.2].length 0 = some 0 := rfl
      cases err with
      | none =>
        have eW : leaveW ⟨rows, some ⟨kn, y :: rs⟩ :: st, "joined" :: es, floor, opened⟩ none b = (⟨rows, some ⟨kn, y :: rs⟩ :: st, es, floor, opened⟩, none) := rfl
        rw [eW] at I1 ⊢
        clear eW
        have hs1 := I1.mat.hs
        have I2 := I1.popS
        walk_at "rd"
        generalize upd H1 so (.lst (rv V.str ("joined" :: es)).dropLast) = H2 at I2 ⊢
        intro n2 g2
        walk_at "rd"
        exact k _ _ _ _ _ (I2.keep ((Same.refl _).new g2)) { g with wf := h, e := ge' }
      | some ez =>
        cases y with
        | some yz =>
          have eW : leaveW ⟨rows, some ⟨kn, some yz :: rs⟩ :: st, "joined" :: es, floor, opened⟩ (some ez) b = (⟨rows, some ⟨kn, some yz :: rs⟩ :: st, es, floor, opened⟩, none) := rfl
          rw [eW] at I1 ⊢
          clear eW
          have hs1 := I1.mat.hs
          have I2 := I1.popS
          have hp2 := I2.mat.hp
          have tq2 := I2.tq.1
          dsimp only at tq2
          obtain ⟨_, _, e5, la1, la2⟩ := I2.tls
          cases e5
          rw [e3] at la1
          walk_at "rd"
          generalize upd H1 so (.lst (rv V.str ("joined" :: es)).dropLast) = H2 at I2 hp2 tq2 la1 la2 ⊢
          intro n2 g2
          walk_at "rd"
          exact k _ _ _ _ _ (I2.keep ((Same.refl _).new g2)) { g with wf := h, e := ge' }
        | none =>
          have eW : leaveW ⟨rows, some ⟨kn, none :: rs⟩ :: st, "joined" :: es, floor, opened⟩ (some ez) b = (⟨rows, some ⟨kn, some ez :: rs⟩ :: st, es, floor, opened⟩, none) := rfl
          rw [eW] at I1 ⊢
          clear eW
          have hs1 := I1.mat.hs
          have I2 := I1.popS
          have hp2 := I2.mat.hp
          have tq2 := I2.tq.1
          dsimp only at tq2
          obtain ⟨_, _, e5, la1, la2⟩ := I2.tls
          cases e5
          rw [e3] at la1
          walk_at "rd"
          generalize upd H1 so (.lst (rv V.str ("joined" :: es)).dropLast) = H2 at I2 hp2 tq2 la1 la2 ⊢
          have I3 : K7 a H0 pp x p so (upd H2 la.1 (.lst ([oV none, V.ref la.2].set (Int.toNat 0) (oV (some ez))))) L1 _ _ _ _ _ := I2.setR (some ez)
          generalize upd H2 la.1 (.lst ([oV none, V.ref la.2].set (Int.toNat 0) (oV (some ez)))) = H3 at I3 ⊢
          intro n2 g2
          walk_at "rd"
          exact k _ _ _ _ _ (I3.keep ((Same.refl _).new g2)) (g.rsn (y' := some ez) rfl rfl hz h ge')
/-! ### the law writes -/
theorem DbAt.mutTup {aD aT aW : Addr} {H : Hp} {L : Lay} {D : Db} {b : Addr} {xs : List V} (h : DbAt aD aT aW H L D) (e : H b = some (.tup xs)) : ¬ Mut L b := fun m => by
  rcases m with rfl | rfl | rfl | rfl | ⟨t, m, rfl⟩ | ⟨w, m, rfl⟩
  · rw [h.db] at e; cases e
  · rw [h.r] at e; cases e
  · rw [h.s] at e; cases e
  · rw [h.e] at e; cases e
  · obtain ⟨x, _, h2, _⟩ := h.tx m
    rw [h2] at e; cases e
  · obtain ⟨x, h1⟩ := h.row m
    rw [h1] at e; cases e
def spW7 (a : Ad) : Sp := fun vs H Q _ => ∃ H0 pp x p so L D Ls stk c n z i, vs = [.ref x, .ref p, .str z, .int i] ∧ IsWord z ∧ K7 a H0 pp x p so H L D Ls stk D.entered c ∧ A7 D stk n ∧ n ≤ 2000 ∧
  ∀ H' L' D' Ls' stk', K7 a H0 pp x p so H' L' D' Ls' stk' D'.entered c → A7 D' stk' (n + 1) → Q (.bl true) H'
theorem dp_pair {K : PySem.W.Frag} {H : Hp} {t : Addr} {z : Str} {y : Option Str} (h : H t = some (.tup [.str z, oV y])) : Dp K H (.ref t) (.tuple [.str z, oD y]) := .tup (SqT.of h) (.cons (.str _) (.cons (dp_o _) .nil))
theorem pair_eq {z : Str} {y : Option Str} (hz : PyData.strOk z = true) (hy : ∀ u, y = some u → IsWord u) : SeqAt.shaped (.tuple [.str z, oD y]) = true ∧ PyData.eqv (.tuple [.str z, oD y]) (.tuple [.str z, oD y]) = true := by
  have h1 : SeqAt.shaped (.tuple [.str z, oD y]) = true := by
    cases y with
    | none =>
      show ((PyData.strOk z && (true && true)) && decide (max 0 (max 0 0) + 1 ≤ 64)) = true
      rw [hz]; rfl
    | some u =>
      show ((PyData.strOk z && (PyData.strOk u && true)) && decide (max 0 (max 0 0) + 1 ≤ 64)) = true
      rw [asc_ok (hy u rfl).asc, hz]; rfl
  exact ⟨h1, SeqAt.eqv_refl _ (SeqAt.canLay_of_shaped h1)⟩
theorem ok_law_write (T : Txt K mg a d) : FnOk P w K mg base CX0 6 a.law_write d.law_write ["_law_db", "_law_stack", "_law_record", "_law_value"] (spW7 a) := by
  have G_law_outer : FnOk P w K mg base CX0 2 a.law_outer d.law_outer ["_law_stack"] spLOuter := ok_law_outer T
  have G_DatabaseU_setitemU : FnOk P w K mg base (L2.CX P w) 5 a.DatabaseU_setitemU d.DatabaseU_setitemU ["self", "record", "value"] (spSet a) := ok_DatabaseU_setitemU T
  refine T.law_write.ok sc_law_write (fun vs H Q E h => ?_) (fun cdv A outer s H vs Q E hr h => ?_)
  · obtain ⟨H0, pp, x, p, so, L, D, Ls, stk, c, n, z, i, rfl, _⟩ := h
    rfl
  · obtain ⟨H0, pp, x, p, so, L, D, Ls, stk, c, n, z, i, rfl, hz, I, g, hn, k⟩ := h
    obtain ⟨m1, m2⟩ := pair_eq (z := "made") (y := none) (by decide +kernel) (fun u e => nomatch e)
    obtain ⟨w1, w2⟩ := pair_eq (z := "waits") (y := some z) (by decide +kernel) (fun u e => Option.some.inj e ▸ hz)
    obtain ⟨lsT, restT, eT, _, eO⟩ := g.held
    have tot := g.tot
    have nek : stk ≠ [] := by rw [eT]; simp
    refine ⟨_, (pss_cons (ps_set (i := 4) sc_law_write.nd rfl (Or.inl rfl) (pe_tup (pa_cons pe_str (pa_cons pe_non pa_nil))))
  (pss_cons (ps_if (PW.pt (pw_and (pt_cmpR (op_neD hr.units) (pe_ix ix_list (pv 1) (pe_un un_neg pe_int) (fun _ _ => rfl)) (pe_lst pa_nil) (nomark _)) (pw_and1 (pt_cmpR op_notN (pe_ix ix_list (pe_ix ix_list (pe_ix ix_list (pv 1) (pe_un un_neg pe_int) (fun _ _ => rfl)) (pe_un un_neg pe_int) (fun _ _ => rfl)) pe_int (fun _ _ => rfl)) pe_non (nomark _))))) (pss_one (ps_set (i := 4) sc_law_write.nd rfl (Or.inl rfl) (pe_tup (pa_cons pe_str (pa_cons (pe_ix ix_list (pe_ix ix_list (pe_ix ix_list (pv 1) (pe_un un_neg pe_int) (fun _ _ => rfl)) (pe_un un_neg pe_int) (fun _ _ => rfl)) pe_int (fun _ _ => rfl)) pa_nil))))) (pss_one (ps_if (pt_cmpR op_in_seq (pv 2) (pe_call G_law_outer (hr.mono (by decide)) (by rfl) T.g_law_outer T.law_outer.kp T.b_law_outer .nil pass0 (pa_cons (pv 1) pa_nil)) (by rfl)) (pss_one (ps_set (i := 4) sc_law_write.nd rfl (Or.inl rfl) (pe_tup (pa_cons pe_str (pa_cons (pv 2) pa_nil))))) (pss_one (ps_if (pt_cmpR (op_neD hr.units) (pe_ix ix_list (pv 1) (pe_un un_neg pe_int) (fun _ _ => rfl)) (pe_lst pa_nil) (nomark _)) (pss_one (ps_asg (pe_op op_cat (pe_ix ix_list (pe_ix ix_list (pe_ix ix_list (pv 1) (pe_un un_neg pe_int) (fun _ _ => rfl)) (pe_un un_neg pe_int) (fun _ _ => rfl)) pe_int (fun _ _ => rfl)) (pe_lst (pa_cons (pv 2) pa_nil))) (pg_sub (pe_ix ix_list (pe_ix ix_list (pv 1) (pe_un un_neg pe_int) (fun _ _ => rfl)) (pe_un un_neg pe_int) (fun _ _ => rfl)) pe_int set_list))) pss_nil)))))
  (pss_cons (ps_tryA rfl rfl sc_law_write.nd takes0 (fun W pn xe tk po => (pss_one (ps_asg (pv 3) (pg_setO (pv 0) (pv 2) T.m_DatabaseU_setitemU T.ns_Database G_DatabaseU_setitemU (hr.mono (by decide)) T.b_DatabaseU_setitemU (fun σ => passAt tk σ))))) (.consA (i := 5) (.intro (by rfl) (And.intro (by decide) (Or.inl T.g_Doomed))) rfl rfl (fun _ _ _ _ _ hz hf => (pss_one (ps_ret (pe_cmpR (op_eqDK (K := K) rfl hr.units) (pv 4) (pe_tup (pa_cons (pe_xf (xfc T.e_Doomed) (no_Doomed_word T) hz hf (pv 5)) (pa_cons (pe_xf (xfc T.e_Doomed) (no_Doomed_first T) hz hf (pv 5)) pa_nil))) (nomark _))))) (.consA (i := 5) (.intro (by rfl) (And.intro (by decide) (Or.inl T.g_Waits))) rfl rfl (fun _ _ _ _ _ hz hf => (pss_one (ps_ret (pe_cmpR (op_eqDK (K := K) rfl hr.units) (pv 4) (pe_tup (pa_cons (pe_xf (xfc T.e_Waits) (no_Waits_word T) hz hf (pv 5)) (pa_cons (pe_xf (xfc T.e_Waits) (no_Waits_record T) hz hf (pv 5)) pa_nil))) (nomark _))))) .nil)))
  (pss_one (ps_ret (pe_cmpR (op_eqD hr.units) (pv 4) (pe_tup (pa_cons pe_str (pa_cons pe_non pa_nil))) (nomark _))))))), ?_⟩
    dsimp only [cxOf]
    walk_at "rd"
    intro t0 ht0
    have I0 := I.keep ((Same.refl H).new (o := .tup [.str "made", .non]) ht0)
    have hd0 := upd_same (H := H) (a := t0) (o := .tup [.str "made", .non])
    generalize upd H t0 (.tup [.str "made", .non]) = H1 at I0 hd0 ⊢
    clear eT
    rcases g.top with ⟨st, rest, e1, e2⟩ | ⟨k0, y, rs, st, l, ls, rest, e1, e2, e3, e4⟩
    · -- no transaction
      subst e2
      have sh0 : SeqAt.shaped (.list (txD [])) = true := by decide +kernel
      obtain ⟨q, Lr, hLs⟩ := I0.tqs
      subst hLs
      obtain ⟨qa, lv⟩ := q
      have hp0 := I0.mat.hp
      have i1 := rv_at (f := txV) (x := (qa, lv)) (l := Lr)
      rw [show txV (qa, lv) = V.ref qa from rfl] at i1
      walk_at "rd"
      intro n1 gn1
      have I2 := I0.keep ((Same.refl _).new (o := .lst []) gn1)
      have hd2 := upd_old (o := .lst []) hd0 gn1
      refine ⟨.list (txD []), .list [], dp_tx I2.tq, .lst (SqL.of upd_same) .nil, sh0, rfl, ?_⟩
      rw [eqv_tx]
      generalize upd H1 n1 (.lst []) = H2 at I2 hd2 ⊢
      have hp2 := I2.mat.hp
      walk_at "rd"
      refine ⟨I2.mat.hq, nek, by omega, fun H3 r3 s3 hr3 _ => ?_⟩
      have I3 := I2.keep s3
      have hd3 := s3 _ _ hd2
      refine ⟨r3, _, rfl, .inl (SqL.of hr3), rfl, flat_strs, ?_⟩
      rw [show (if false = true then !inV (V.str z) ((outerM ([] :: rest)).map V.str) else inV (V.str z) ((outerM ([] :: rest)).map V.str)) = inV (V.str z) ((outerM ([] :: rest)).map V.str) from rfl, inV_strs, ← eO]
      by_cases b1 : z ∈ outerL D
      · rw [decide_eq_true b1]
        have eW : writeD D z (.int i) = (D, some (.waits z)) := by unfold writeD; rw [e1]; dsimp only; rw [if_pos b1]
        walk_at "rd"
        intro t4 ht4
        have I4 := I3.keep ((Same.refl _).new (o := .tup [.str "waits", .str z]) ht4)
        have hd4 := upd_same (H := H3) (a := t4) (o := .tup [.str "waits", .str z])
        generalize upd H3 t4 (.tup [.str "waits", .str z]) = H4 at I4 hd4 ⊢
        have hx := I4.dat.db
        rw [I4.ed] at hx
        walk_at "rd"
        refine ⟨L, D, .str z, .int i, by rw [I4.ed], word_thing hz, I4.dat, g.sm (by omega), fun H5 L5 hD5 f5 => ?_⟩
        rw [setV_word hz, eW] at hD5 ⊢
        have I5 := I4.db hD5 f5
        have hd5 := f5.kp _ _ hd4 (I4.dat.mutTup hd4)
        intro dd gd
        refine ⟨false, T.x_Waits_Doomed, (fun z => by cases z), fun _ => ⟨true, T.e_Waits.te, fun _ x' hx' => ?_, (fun z => by cases z)⟩⟩
        unfold wCl
        have I6 := I5.keep ((Same.refl H5).new (o := .xd (errF [.str z] ef_Waits [])) gd)
        have hd6 := upd_old (o := .xd (errF [.str z] ef_Waits [])) hd5 gd
        have he6 := upd_same (H := H5) (a := dd) (o := .xd (errF [.str z] ef_Waits []))
        generalize upd H5 dd (.xd (errF [.str z] ef_Waits [])) = H6 at I6 hd6 he6 ⊢
        walk_at "rd"
        intro t7 ht7
        refine ⟨_, _, dp_pair (y := some z) (upd_old hd6 ht7), dp_pair (y := some z) upd_same, w1, w1, ?_⟩
        rw [w2]
        exact k _ _ _ _ _ (I6.keep ((Same.refl _).new ht7)) (g.up (by omega))
      · rw [decide_eq_false b1]
        have eW : writeD D z (.int i) = (addD D ⟨z, .int i, "kept", -1, 0⟩, none) := by unfold writeD; rw [e1]; dsimp only; rw [if_neg b1]
        have hp3 := I3.mat.hp
        walk_at "rd"
        intro n4 gn4
        have I4 := I3.keep ((Same.refl _).new (o := .lst []) gn4)
        have hd4 := upd_old (o := .lst []) hd3 gn4
        refine ⟨.list (txD []), .list [], dp_tx I4.tq, .lst (SqL.of upd_same) .nil, sh0, rfl, ?_⟩
        rw [eqv_tx]
        generalize upd H3 n4 (.lst []) = H4 at I4 hd4 ⊢
        have hx := I4.dat.db
        rw [I4.ed] at hx
        walk_at "rd"
        refine ⟨L, D, .str z, .int i, by rw [I4.ed], word_thing hz, I4.dat, g.sm (by omega), fun H5 L5 hD5 f5 => ?_⟩
        rw [setV_word hz, eW] at hD5 ⊢
        have I5 := I4.db hD5 f5
        have hd5 := f5.kp _ _ hd4 (I4.dat.mutTup hd4)
        walk_at "rd"
        intro t7 ht7
        refine ⟨_, _, dp_pair (y := none) (upd_old hd5 ht7), dp_pair (y := none) upd_same, m1, m1, ?_⟩
        rw [m2]
        exact k _ _ _ _ _ (I5.keep ((Same.refl _).new ht7)) (g.kept rfl rfl hz)
    · -- a transaction
      subst e2
      have sh0 : SeqAt.shaped (.list (txD (l :: ls))) = true := shaped_tx g.lvw
      obtain ⟨q, Lr, hLs⟩ := I0.tqs
      subst hLs
      obtain ⟨qa, lv⟩ := q
      have hp0 := I0.mat.hp
      have i1 := rv_at (f := txV) (x := (qa, lv)) (l := Lr)
      rw [show txV (qa, lv) = V.ref qa from rfl] at i1
      obtain ⟨la, lr, eq2, _⟩ := I0.tls
      cases eq2
      have i2 := rv_at (f := lvV) (x := la) (l := lr)
      rw [show lvV la = V.ref la.1 from rfl] at i2
      have i3 : atI [oV y, V.ref la.2] 0 = some (oV y) := rfl
      have i4 : atI [oV y, V.ref la.2] 1 = some (V.ref la.2) := rfl
      have i5 : ixN [oV y, V.ref la.2].length 1 = some 1 := rfl
      walk_at "rd"
      intro n1 gn1
      have I2 := I0.keep ((Same.refl _).new (o := .lst []) gn1)
      have hd2 := upd_old (o := .lst []) hd0 gn1
      refine ⟨.list (txD (l :: ls)), .list [], dp_tx I2.tq, .lst (SqL.of upd_same) .nil, sh0, rfl, ?_⟩
      rw [eqv_tx]
      generalize upd H1 n1 (.lst []) = H2 at I2 hd2 ⊢
      have hp2 := I2.mat.hp
      have tq2 := I2.tq.1
      dsimp only at tq2
      obtain ⟨_, _, e5, la1, la2⟩ := I2.tls
      cases e5
      rw [e3] at la1
      cases y with
      | some yz =>
        have wy : IsWord yz := g.w ⟨k0, some yz :: rs⟩ (by rw [e1]; exact List.mem_cons_self) yz List.mem_cons_self
        obtain ⟨y1, y2⟩ := pair_eq (z := "doomed") (y := some yz) (by decide +kernel) (fun u e => Option.some.inj e ▸ wy)
        have eW : writeD D z (.int i) = (D, some (.doomed yz)) := by unfold writeD; rw [e1]
        walk_at "rd"
        intro t4 ht4
        have I4 := I2.keep ((Same.refl _).new (o := .tup [.str "doomed", oV (some yz)]) ht4)
        have hd4 := upd_same (H := H2) (a := t4) (o := .tup [.str "doomed", oV (some yz)])
        generalize upd H2 t4 (.tup [.str "doomed", oV (some yz)]) = H4 at I4 hd4 ⊢
        have hx := I4.dat.db
        rw [I4.ed] at hx
        walk_at "rd"
        refine ⟨L, D, .str z, .int i, by rw [I4.ed], word_thing hz, I4.dat, g.sm (by omega), fun H5 L5 hD5 f5 => ?_⟩
        rw [setV_word hz, eW] at hD5 ⊢
        have I5 := I4.db hD5 f5
        have hd5 := f5.kp _ _ hd4 (I4.dat.mutTup hd4)
        intro dd gd
        refine ⟨true, T.e_Doomed.te, fun _ x' hx' => ?_, (fun z => by cases z)⟩
        unfold wCl
        have I6 := I5.keep ((Same.refl H5).new (o := .xd (errF [.str yz] ef_Doomed [])) gd)
        have hd6 := upd_old (o := .xd (errF [.str yz] ef_Doomed [])) hd5 gd
        have he6 := upd_same (H := H5) (a := dd) (o := .xd (errF [.str yz] ef_Doomed []))
        generalize upd H5 dd (.xd (errF [.str yz] ef_Doomed [])) = H6 at I6 hd6 he6 ⊢
        walk_at "rd"
        intro t7 ht7
        refine ⟨_, _, dp_pair (y := some yz) (upd_old hd6 ht7), dp_pair (y := some yz) upd_same, y1, y1, ?_⟩
        rw [y2]
        exact k _ _ _ _ _ (I6.keep ((Same.refl _).new ht7)) (g.up (by omega))
      | none =>
        walk_at "rd"
        refine ⟨I2.mat.hq, nek, by omega, fun H3 r3 s3 hr3 _ => ?_⟩
        have I3 := I2.keep s3
        have hd3 := s3 _ _ hd2
        refine ⟨r3, _, rfl, .inl (SqL.of hr3), rfl, flat_strs, ?_⟩
        rw [show (if false = true then !inV (V.str z) ((outerM ((l :: ls) :: rest)).map V.str) else inV (V.str z) ((outerM ((l :: ls) :: rest)).map V.str)) = inV (V.str z) ((outerM ((l :: ls) :: rest)).map V.str) from rfl, inV_strs, ← eO]
        by_cases b1 : z ∈ outerL D
        · rw [decide_eq_true b1]
          have eW : writeD D z (.int i) = (D, some (.waits z)) := by unfold writeD; rw [e1]; dsimp only; rw [if_pos b1]
          walk_at "rd"
          intro t4 ht4
          have I4 := I3.keep ((Same.refl _).new (o := .tup [.str "waits", .str z]) ht4)
          have hd4 := upd_same (H := H3) (a := t4) (o := .tup [.str "waits", .str z])
          generalize upd H3 t4 (.tup [.str "waits", .str z]) = H4 at I4 hd4 ⊢
          have hx := I4.dat.db
          rw [I4.ed] at hx
          walk_at "rd"
          refine ⟨L, D, .str z, .int i, by rw [I4.ed], word_thing hz, I4.dat, g.sm (by omega), fun H5 L5 hD5 f5 => ?_⟩
          rw [setV_word hz, eW] at hD5 ⊢
          have I5 := I4.db hD5 f5
          have hd5 := f5.kp _ _ hd4 (I4.dat.mutTup hd4)
          intro dd gd
          refine ⟨false, T.x_Waits_Doomed, (fun z => by cases z), fun _ => ⟨true, T.e_Waits.te, fun _ x' hx' => ?_, (fun z => by cases z)⟩⟩
          unfold wCl
          have I6 := I5.keep ((Same.refl H5).new (o := .xd (errF [.str z] ef_Waits [])) gd)
          have hd6 := upd_old (o := .xd (errF [.str z] ef_Waits [])) hd5 gd
          have he6 := upd_same (H := H5) (a := dd) (o := .xd (errF [.str z] ef_Waits []))
          generalize upd H5 dd (.xd (errF [.str z] ef_Waits [])) = H6 at I6 hd6 he6 ⊢
          walk_at "rd"
          intro t7 ht7
          refine ⟨_, _, dp_pair (y := some z) (upd_old hd6 ht7), dp_pair (y := some z) upd_same, w1, w1, ?_⟩
          rw [w2]
          exact k _ _ _ _ _ (I6.keep ((Same.refl _).new ht7)) (g.up (by omega))
        · rw [decide_eq_false b1]
          have eW : writeD D z (.int i) = (addD D ⟨z, .int i, "open", k0, rs.length⟩, none) := by unfold writeD; rw [e1]; dsimp only; rw [if_neg b1]
          have hp3 := I3.mat.hp
          walk_at "rd"
          intro n4 gn4
          have I4 := I3.keep ((Same.refl _).new (o := .lst []) gn4)
          have hd4 := upd_old (o := .lst []) hd3 gn4
          refine ⟨.list (txD (l :: ls)), .list [], dp_tx I4.tq, .lst (SqL.of upd_same) .nil, sh0, rfl, ?_⟩
          rw [eqv_tx]
          generalize upd H3 n4 (.lst []) = H4 at I4 hd4 ⊢
          have hp4 := I4.mat.hp
          have tq4 := I4.tq.1
          dsimp only at tq4
          obtain ⟨_, _, e6, lb1, lb2⟩ := I4.tls
          cases e6
          rw [e3] at lb1
          have s1 : (l.recs.map V.str ++ [V.str z]).length ≤ sizeLine := by
            rw [List.length_append, List.length_map, sizeLine_eq]
            unfold totL at tot
            simp only [List.map_cons, List.sum_cons, List.length_cons, List.length_nil] at tot ⊢
            omega
          walk_at "rd"
          intro n5 g5
          have J5 := I4.keep ((Same.refl _).new (o := .lst [.str z]) g5)
          have jd5 := upd_old (o := .lst [.str z]) hd4 g5
          have jn5 := upd_same (H := H4) (a := n5) (o := .lst [.str z])
          generalize upd H4 n5 (.lst [.str z]) = G5 at J5 jd5 jn5 ⊢
          have jp5 := J5.mat.hp
          have jq5 := J5.tq.1
          dsimp only at jq5
          obtain ⟨_, _, e7, lc1, lc2⟩ := J5.tls
          cases e7
          rw [e3] at lc1
          walk_at "rd"
          rw [show l.recs.map V.str ++ [V.str z] = (l.recs ++ [z]).map V.str by simp]
          refine ⟨by rw [List.length_append] at s1; exact s1, fun n6 g6 => ?_⟩
          have J7 := J5.setN (rs := l.recs ++ [z]) g6
          have J6 := J5.keep ((Same.refl _).new (o := .lst ((l.recs ++ [z]).map V.str)) g6)
          have jd6 := upd_old (o := .lst ((l.recs ++ [z]).map V.str)) jd5 g6
          have jp6 := J6.mat.hp
          have jq6 := J6.tq.1
          dsimp only at jq6
          obtain ⟨_, _, e8, le1, le2⟩ := J6.tls
          cases e8
          rw [e3] at le1 J7
          generalize upd G5 n6 (.lst ((l.recs ++ [z]).map V.str)) = G6 at J6 J7 jd6 jp6 jq6 le1 le2 ⊢
          have tn : t0 ≠ la.1 := fun e => by rw [e, le1] at jd6; cases jd6
          have J7 : K7 a H0 pp x p so (upd G6 la.1 (.lst ([oV none, V.ref la.2].set (Int.toNat 1) (V.ref n6)))) L D _ _ _ _ := J7
          have jd7 := upd_oth (o := .lst ([oV none, V.ref la.2].set (Int.toNat 1) (V.ref n6))) tn jd6
          have hx := J7.dat.db
          rw [J7.ed] at hx
          walk_at "rd"
          generalize upd G6 la.1 (.lst ([oV none, V.ref la.2].set (Int.toNat 1) (V.ref n6))) = G7 at J7 jd7 hx ⊢
          refine ⟨L, D, .str z, .int i, by rw [J7.ed], word_thing hz, J7.dat, g.sm (by omega), fun H5 L5 hD5 f5 => ?_⟩
          rw [setV_word hz, eW] at hD5 ⊢
          have I5 := J7.db hD5 f5
          have hd5 := f5.kp _ _ jd7 (J7.dat.mutTup jd7)
          walk_at "rd"
          intro t7 ht7
          refine ⟨_, _, dp_pair (y := none) (upd_old hd5 ht7), dp_pair (y := none) upd_same, m1, m1, ?_⟩
          rw [m2]
          have gz := g.opens (v := .int i) e1 rfl hz
          rw [e3] at gz
          exact k _ _ _ _ _ (I5.keep ((Same.refl _).new ht7)) gz
/-! ### one deed -/
theorem mode_at {r : Int} (h0 : 0 ≤ r) (h1 : r < 8) : ∃ z : Str, atI modesV r = some (.str z) ∧ z ∈ modesS := by
  have hr : r = 0 ∨ r = 1 ∨ r = 2 ∨ r = 3 ∨ r = 4 ∨ r = 5 ∨ r = 6 ∨ r = 7 := by omega
  rcases hr with rfl | rfl | rfl | rfl | rfl | rfl | rfl | rfl
  all_goals exact ⟨_, rfl, by simp⟩
theorem words_at {ws : List Str} (h5 : ws.length = 5) {r : Int} (h0 : 0 ≤ r) (h1 : r < 5) : ∃ z : Str, atI (ws.map V.str) r = some (.str z) ∧ z ∈ ws := by
  match ws, h5 with
  | [a, b, c, d, e], _ =>
    have hr : r = 0 ∨ r = 1 ∨ r = 2 ∨ r = 3 ∨ r = 4 := by omega
    rcases hr with rfl | rfl | rfl | rfl | rfl
    all_goals exact ⟨_, rfl, by simp⟩
theorem dp_rvS {K : PySem.W.Frag} {H : Hp} (l : List Str) : DpAll K H (rv V.str l) ((l.map PyData.str).reverse) := by
  unfold rv
  rw [← List.map_reverse, ← List.map_reverse]
  exact dp_strs _
theorem eqv_rvS (l : List Str) : PyData.eqv (.list (l.map PyData.str).reverse) (.list []) = l.isEmpty := by
  show PyData.eqvAll _ [] = _
  rw [eqvAll_nil]
  cases l <;> simp
theorem shaped_rvS {l : List Str} (h : ∀ y ∈ l, asc y) : SeqAt.shaped (.list (l.map PyData.str).reverse) = true := by
  rw [← List.map_reverse]
  exact shaped_strs fun y hy => h y (List.mem_reverse.mp hy)
theorem Wf.asc {es : List Str} {st : List (Option Tx)} (h : Wf es st) : ∀ y ∈ es, asc y := by
  have hz : ∀ z : Str, (z.cps.toList.all fun c => decide (c < 128)) = true → Ic.asc z := fun z h c hc => of_decide_eq_true (List.all_eq_true.mp h c hc)
  have step : ∀ {z : Str} {es : List Str}, (z.cps.toList.all fun c => decide (c < 128)) = true → (∀ y ∈ es, Ic.asc y) → ∀ y ∈ z :: es, Ic.asc y := fun h1 ih y hy => by
    rcases List.mem_cons.mp hy with rfl | hy
    · exact hz _ h1
    · exact ih y hy
  induction h with
  | nil => exact fun y hy => by cases hy
  | plain h ih => exact step (by decide +kernel) ih
  | base h ih => exact step (by decide +kernel) ih
  | level h ih => exact step (by decide +kernel) ih
  | joined h ih => exact step (by decide +kernel) ih
  | outside h ih => exact step (by decide +kernel) ih
def spS7 (a : Ad) : Sp := fun vs H Q _ => ∃ H0 pp x p so wo, ∃ ws : List Str, ∃ L D Ls stk c n, vs = [.ref pp, .ref x, .ref p, .ref so, .ref wo] ∧ H0 wo = some (.lst (ws.map V.str)) ∧ ws.length = 5 ∧ (∀ z ∈ ws, IsWord z) ∧ K7 a H0 pp x p so H L D Ls stk D.entered c ∧ A7 D stk n ∧ n ≤ 1000 ∧ c < 2 ^ 30 ∧
  ∀ H' L' D' Ls' stk', K7 a H0 pp x p so H' L' D' Ls' stk' D'.entered (c + 20) → A7 D' stk' (n + 1) → Q (.bl true) H'
theorem ok_law_step (T : Txt K mg a d) : FnOk P w K mg base CX0 7 a.law_step d.law_step ["_law_pool_here", "_law_db", "_law_stack", "_law_sorts", "_law_words"] (spS7 a) := by
  have G_law_draw : FnOk P w K mg base CX0 1 a.law_draw d.law_draw ["_law_pool_here", "_law_many"] spDraw := ok_law_draw T
  have G_law_word : FnOk P w K mg base CX0 2 a.law_word d.law_word ["_law_pool_here"] spWord := ok_law_word T
  have G_law_enter : FnOk P w K mg base CX0 6 a.law_enter d.law_enter ["_law_db", "_law_stack", "_law_sorts", "_law_mode"] (spE7 a) := ok_law_enter T
  have G_law_leave : FnOk P w K mg base CX0 4 a.law_leave d.law_leave ["_law_db", "_law_stack", "_law_sorts", "_law_error", "_law_goes"] (spL7 a) := ok_law_leave T
  have G_law_write : FnOk P w K mg base CX0 6 a.law_write d.law_write ["_law_db", "_law_stack", "_law_record", "_law_value"] (spW7 a) := ok_law_write T
  have G_Database_doom : FnOk P w K mg base (L2.CX P w) 2 a.Database_doom d.Database_doom ["self", "first"] (spDoom a) := ok_Database_doom T
  refine T.law_step.ok sc_law_step (fun vs H Q E h => ?_) (fun cdv A outer s H vs Q E hr h => ?_)
  · obtain ⟨H0, pp, x, p, so, wo, ws, L, D, Ls, stk, c, n, rfl, _⟩ := h
    rfl
  · obtain ⟨H0, pp, x, p, so, wo, ws, L, D, Ls, stk, c, n, rfl, hwo, h5, hws, I0, g, hn, hc, k⟩ := h
    refine ⟨_, (pss_cons (ps_set (i := 5) sc_law_step.nd rfl (Or.inl rfl) (pe_call G_law_draw (hr.mono (by decide)) (by rfl) T.g_law_draw T.law_draw.kp T.b_law_draw .nil pass0 (pa_cons (pv 0) (pa_cons pe_int pa_nil))))
  (pss_cons (ps_if (pt_cmpR op_lt (pv 5) pe_int (nomark _)) (pss_cons (ps_set (i := 6) sc_law_step.nd rfl (Or.inl rfl) (pe_lst (pa_cons pe_str (pa_cons pe_str (pa_cons pe_str (pa_cons pe_str (pa_cons pe_str (pa_cons pe_str (pa_cons pe_str (pa_cons pe_str pa_nil))))))))))
  (pss_one (ps_ret (pe_call G_law_enter (hr.mono (by decide)) (by rfl) T.g_law_enter T.law_enter.kp T.b_law_enter .nil pass0 (pa_cons (pv 1) (pa_cons (pv 2) (pa_cons (pv 3) (pa_cons (pe_ix ix_list (pv 6) (pe_call G_law_draw (hr.mono (by decide)) (by rfl) T.g_law_draw T.law_draw.kp T.b_law_draw .nil pass0 (pa_cons (pv 0) (pa_cons pe_int pa_nil))) (fun _ _ => rfl)) pa_nil)))))))) pss_nil)
  (pss_cons (ps_if (PW.pt (pw_and (pt_cmpR op_lt (pv 5) pe_int (nomark _)) (pw_and1 (pt_cmpR (op_neD hr.units) (pv 3) (pe_lst pa_nil) (nomark _))))) (pss_cons (ps_set (i := 7) sc_law_step.nd rfl (Or.inl rfl) (pe_ifExp (pt_cmpR op_eq (pe_call G_law_draw (hr.mono (by decide)) (by rfl) T.g_law_draw T.law_draw.kp T.b_law_draw .nil pass0 (pa_cons (pv 0) (pa_cons pe_int pa_nil))) pe_int (nomark _)) (pe_call G_law_word (hr.mono (by decide)) (by rfl) T.g_law_word T.law_word.kp T.b_law_word .nil pass0 (pa_cons (pv 0) pa_nil)) pe_non))
  (pss_one (ps_ret (pe_call G_law_leave (hr.mono (by decide)) (by rfl) T.g_law_leave T.law_leave.kp T.b_law_leave .nil pass0 (pa_cons (pv 1) (pa_cons (pv 2) (pa_cons (pv 3) (pa_cons (pv 7) (pa_cons (pe_cmpR op_gt (pe_call G_law_draw (hr.mono (by decide)) (by rfl) T.g_law_draw T.law_draw.kp T.b_law_draw .nil pass0 (pa_cons (pv 0) (pa_cons pe_int pa_nil))) pe_int (nomark _)) pa_nil))))))))) pss_nil)
  (pss_cons (ps_if (PW.pt (pw_and (pt_cmpR op_eq (pv 5) pe_int (nomark _)) (pw_and1 (pt_cmpR (op_neD hr.units) (pe_ix ix_list (pv 2) (pe_un un_neg pe_int) (fun _ _ => rfl)) (pe_lst pa_nil) (nomark _))))) (pss_cons (ps_set (i := 8) sc_law_step.nd rfl (Or.inl rfl) (pe_call G_law_word (hr.mono (by decide)) (by rfl) T.g_law_word T.law_word.kp T.b_law_word .nil pass0 (pa_cons (pv 0) pa_nil)))
  (pss_cons (ps_expr (pe_meth (pv 1) T.k_Database T.m_Database_doom G_Database_doom (hr.mono (by decide)) (bd_doom T) .nil passL (pa_cons (pv 8) pa_nil)))
  (pss_cons (ps_if (pt_cmpR op_isN (pe_ix ix_list (pe_ix ix_list (pe_ix ix_list (pv 2) (pe_un un_neg pe_int) (fun _ _ => rfl)) (pe_un un_neg pe_int) (fun _ _ => rfl)) pe_int (fun _ _ => rfl)) pe_non (nomark _)) (pss_one (ps_asg (pv 8) (pg_sub (pe_ix ix_list (pe_ix ix_list (pv 2) (pe_un un_neg pe_int) (fun _ _ => rfl)) (pe_un un_neg pe_int) (fun _ _ => rfl)) pe_int set_list))) pss_nil)
  (pss_one (ps_ret pe_bl))))) pss_nil)
  (pss_one (ps_ret (pe_call G_law_write (hr.mono (by decide)) (by rfl) T.g_law_write T.law_write.kp T.b_law_write .nil pass0 (pa_cons (pv 1) (pa_cons (pv 2) (pa_cons (pe_ix ix_list (pv 4) (pe_call G_law_draw (hr.mono (by decide)) (by rfl) T.g_law_draw T.law_draw.kp T.b_law_draw .nil pass0 (pa_cons (pv 0) (pa_cons pe_int pa_nil))) (fun _ _ => rfl)) (pa_cons (pe_call G_law_draw (hr.mono (by decide)) (by rfl) T.g_law_draw T.law_draw.kp T.b_law_draw .nil pass0 (pa_cons (pv 0) (pa_cons (pe_op op_pow pe_int pe_int) pa_nil))) pa_nil))))))))))), ?_⟩
    dsimp only [cxOf]
    obtain ⟨o0, hp0, ho0⟩ := I0.pool
    walk_at "rd"
    intro r o1 r0 r1 h1
    have I1 := I0.draw (o' := o1) Kp.refl.set1 upd_same h1
    have hp1 := upd_same (H := H) (a := pp) (o := o1)
    generalize upd H pp o1 = H1 at I1 hp1 ⊢
    walk_at "rd"
    refine ite2 (fun c0 => ?_) (fun c0 => ?_)
    · -- a block is entered
      walk_at "rd"
      intro ml hml
      have I2 := I1.keep ((Same.refl H1).new (o := .lst modesV) hml)
      have hml1 := upd_same (H := H1) (a := ml) (o := .lst modesV)
      have hmp : ml ≠ pp := fun z => by rw [z, hp1] at hml; cases hml
      have hp2 := upd_old (o := .lst modesV) hp1 hml
      generalize upd H1 ml (.lst modesV) = H2 at I2 hml1 hp2 ⊢
      walk_at "rd"
      intro r3 o3 r30 r31 h3
      have I3 := I2.draw (o' := o3) Kp.refl.set1 upd_same h3
      have hml3 := upd_oth (o := o3) hmp hml1
      generalize upd H2 pp o3 = H3 at I3 hml3 ⊢
      obtain ⟨m, hm1, hm2⟩ := mode_at r30 r31
      walk_at "rd"
      refine ⟨H0, pp, x, p, so, L, D, Ls, stk, _, n, m, rfl, hm2, I3, g, by omega, fun H' L' D' Ls' stk' I' g' => k H' L' D' Ls' stk' (I'.up (by omega)) g'⟩
    have hdec : PyData.eqv (.list (D.entered.map PyData.str).reverse) (.list []) = D.entered.isEmpty := eqv_rvS _
    have she := shaped_rvS g.wf.asc
    walk_at "rd"
    refine ite2 (fun c1 => ?_) (fun c1 => ?_)
    · have hs1 := I1.mat.hs
      walk_at "rd"
      intro n2 g2
      have I2 := I1.keep ((Same.refl _).new (o := .lst []) g2)
      refine ⟨_, .list [], .lst (SqL.of I2.mat.hs) (dp_rvS _), .lst (SqL.of upd_same) .nil, she, rfl, ?_⟩
      rw [hdec]
      have hp2 := upd_old (o := .lst []) hp1 g2
      generalize upd H1 n2 (.lst []) = H2 at I2 hp2 ⊢
      by_cases hem : D.entered = []
      · rw [hem]
        walk_at "rd"
        refine ite2 (fun c2 => ?_) (fun c2 => ?_)
        · exact absurd (of_decide_eq_true c1) (by have := V.int.inj (of_decide_eq_true c2); omega)
        · skip
          have hw8 := I2.same _ _ hwo
          walk_at "rd"
          intro r8 o8 r80 r81 h8
          have I8 := I2.draw (o' := o8) Kp.refl.set1 upd_same h8
          have hp8 := upd_same (H := H2) (a := pp) (o := o8)
          generalize upd H2 pp o8 = H8 at I8 hp8 ⊢
          obtain ⟨z8, hz1, hz2⟩ := words_at h5 r80 r81
          have hw8 := I8.same _ _ hwo
          walk_at "rd"
          intro r9 o9 r90 r91 h9
          have I9 := I8.draw (o' := o9) Kp.refl.set1 upd_same h9
          generalize upd H8 pp o9 = H9 at I9 ⊢
          walk_at "rd"
          refine ⟨H0, pp, x, p, so, L, D, Ls, stk, _, n, z8, r9, rfl, hws z8 hz2, I9, g, by omega, fun H' L' D' Ls' stk' I' g' => k H' L' D' Ls' stk' (I'.up (by omega)) g'⟩
      · rw [show D.entered.isEmpty = false from by cases he : D.entered with | nil => exact absurd he hem | cons _ _ => rfl]
        walk_at "rd"
        intro r3 o3 r30 r31 h3
        have I3 := I2.draw (o' := o3) Kp.refl.set1 upd_same h3
        have hp3 := upd_same (H := H2) (a := pp) (o := o3)
        generalize upd H2 pp o3 = H3 at I3 hp3 ⊢
        walk_at "rd"
        refine ite2 (fun c3 => ?_) (fun c3 => ?_)
        · walk_at "rd"
          intro w4 o4 H4 hw h4 hp4 kp4
          have I4 := I3.draw kp4 hp4 h4
          walk_at "rd"
          intro r5 o5 r50 r51 h5
          have I5 := I4.draw (o' := o5) Kp.refl.set1 upd_same h5
          generalize upd H4 pp o5 = H5 at I5 ⊢
          walk_at "rd"
          refine ⟨H0, pp, x, p, so, L, D, Ls, stk, _, n, some w4, _, rfl, (fun z e => Option.some.inj e ▸ hw), hem, I5, g, by omega, fun H' L' D' Ls' stk' I' g' => k H' L' D' Ls' stk' (I'.up (by omega)) (g'.up (by omega))⟩
        · walk_at "rd"
          intro r5 o5 r50 r51 h5
          have I5 := I3.draw (o' := o5) Kp.refl.set1 upd_same h5
          generalize upd H3 pp o5 = H5 at I5 ⊢
          walk_at "rd"
          refine ⟨H0, pp, x, p, so, L, D, Ls, stk, _, n, none, _, rfl, (fun z e => nomatch e), hem, I5, g, by omega, fun H' L' D' Ls' stk' I' g' => k H' L' D' Ls' stk' (I'.up (by omega)) (g'.up (by omega))⟩
    · walk_at "rd"
      refine ite2 (fun c2 => ?_) (fun c2 => ?_)
      · have hpp := I1.mat.hp
        rcases g.top with ⟨st, rest, e1, e2⟩ | ⟨k0, y, rs, st, l, ls, rest, e1, e2, e3, e4⟩
        · have sh0 : SeqAt.shaped (.list (txD [])) = true := by decide +kernel
          have I1' := I1
          rw [e2] at I1'
          obtain ⟨q, Lr, hLs⟩ := I1'.tqs
          have i1 := rv_at (f := txV) (x := q) (l := Lr)
          rw [hLs] at hpp
          walk_at "rd"
          intro n2 g2
          have I2 := I1.keep ((Same.refl _).new (o := .lst []) g2)
          have I2' := I1'.keep ((Same.refl _).new (o := .lst []) g2)
          rw [hLs] at I2'
          refine ⟨.list (txD []), .list [], dp_tx I2'.tq, .lst (SqL.of upd_same) .nil, sh0, rfl, ?_⟩
          rw [eqv_tx]
          have hp2 := upd_old (o := .lst []) hp1 g2
          clear I2' I1'
          generalize upd H1 n2 (.lst []) = H2 at I2 hp2 ⊢
          have hw8 := I2.same _ _ hwo
          walk_at "rd"
          intro r8 o8 r80 r81 h8
          have I8 := I2.draw (o' := o8) Kp.refl.set1 upd_same h8
          have hp8 := upd_same (H := H2) (a := pp) (o := o8)
          generalize upd H2 pp o8 = H8 at I8 hp8 ⊢
          obtain ⟨z8, hz1, hz2⟩ := words_at h5 r80 r81
          have hw8 := I8.same _ _ hwo
          walk_at "rd"
          intro r9 o9 r90 r91 h9
          have I9 := I8.draw (o' := o9) Kp.refl.set1 upd_same h9
          generalize upd H8 pp o9 = H9 at I9 ⊢
          walk_at "rd"
          refine ⟨H0, pp, x, p, so, L, D, Ls, stk, _, n, z8, r9, rfl, hws z8 hz2, I9, g, by omega, fun H' L' D' Ls' stk' I' g' => k H' L' D' Ls' stk' (I'.up (by omega)) g'⟩
        · subst e2
          have sh0 : SeqAt.shaped (.list (txD (l :: ls))) = true := shaped_tx g.lvw
          obtain ⟨q, Lr, hLs⟩ := I1.tqs
          subst hLs
          obtain ⟨qa, lv⟩ := q
          obtain ⟨la, lr, eq2, _⟩ := I1.tls
          cases eq2
          have i1 := rv_at (f := txV) (x := (qa, la :: lr)) (l := Lr)
          have i2 := rv_at (f := lvV) (x := la) (l := lr)
          rw [show txV (qa, la :: lr) = V.ref qa from rfl] at i1
          rw [show lvV la = V.ref la.1 from rfl] at i2
          have i3 : atI [oV y, V.ref la.2] 0 = some (oV y) := rfl
          have i4 : ixN [oV y, V.ref la.2].length 0 = some 0 := rfl
          walk_at "rd"
          intro n2 g2
          have I2 := I1.keep ((Same.refl _).new (o := .lst []) g2)
          refine ⟨.list (txD (l :: ls)), .list [], dp_tx I2.tq, .lst (SqL.of upd_same) .nil, sh0, rfl, ?_⟩
          rw [eqv_tx]
          have hp2 := upd_old (o := .lst []) hp1 g2
          generalize upd H1 n2 (.lst []) = H2 at I2 hp2 ⊢
          walk_at "rd"
          intro w4 o4 H4 hw h4 hp4 kp4
          have I4 := I2.draw kp4 hp4 h4
          have hx4 := I4.dat.db
          rw [I4.ed] at hx4
          walk_at "rd"
          refine ⟨L, D, .str w4, by rw [I4.ed]; rfl, word_thing hw, I4.dat, fun H6 L6 hD6 f6 => ?_⟩
          have I6 := I4.db hD6 f6
          rw [doomV_word hw] at I6 ⊢
          have hp6 := I6.mat.hp
          have tq6 := I6.tq.1
          dsimp only at tq6
          obtain ⟨_, _, e5, la1, la2⟩ := I6.tls
          cases e5
          rw [e3] at la1
          cases y with
          | some y =>
            have eD : doomD D w4 = D := by unfold doomD; rw [e1]
            rw [eD] at I6
            walk_at "rd"
            exact k _ _ _ _ _ (I6.up (by omega)) (g.up (by omega))
          | none =>
            have eD : doomD D w4 = { D with stack := some ⟨k0, some w4 :: rs⟩ :: st } := by unfold doomD; rw [e1]
            rw [eD] at I6
            have I7 : K7 a H0 pp x p so (upd H6 la.1 (.lst ([oV none, V.ref la.2].set (Int.toNat 0) (V.str w4)))) L6 _ _ _ _ _ := I6.setR (some w4)
            walk_at "rd"
            have gz := g.rsn (y' := some w4) (es := D.entered) e1 rfl (fun z e => Option.some.inj e ▸ hw) (by have := g.wf; rw [e1] at this; exact this) g.e
            exact k _ _ _ _ _ (I7.up (by omega)) (gz.up (by omega))
      · skip
        have hw8 := I1.same _ _ hwo
        walk_at "rd"
        intro r8 o8 r80 r81 h8
        have I8 := I1.draw (o' := o8) Kp.refl.set1 upd_same h8
        have hp8 := upd_same (H := H1) (a := pp) (o := o8)
        generalize upd H1 pp o8 = H8 at I8 hp8 ⊢
        obtain ⟨z8, hz1, hz2⟩ := words_at h5 r80 r81
        have hw8 := I8.same _ _ hwo
        walk_at "rd"
        intro r9 o9 r90 r91 h9
        have I9 := I8.draw (o' := o9) Kp.refl.set1 upd_same h9
        generalize upd H8 pp o9 = H9 at I9 ⊢
        walk_at "rd"
        refine ⟨H0, pp, x, p, so, L, D, Ls, stk, _, n, z8, r9, rfl, hws z8 hz2, I9, g, by omega, fun H' L' D' Ls' stk' I' g' => k H' L' D' Ls' stk' (I'.up (by omega)) g'⟩
/-! ### the law -/
theorem a7_new : A7 ⟨[], [none], [], 0, 0⟩ [[]] 0 :=
  ⟨.nil, rfl, Nat.le_refl 0, Nat.le_refl 0, .cons rfl .nil, fun x hx => by simp at hx, by simp, (fun r hr => nomatch hr), fun x hx => by simp at hx, (fun r hr => nomatch hr), (fun ls hls l hl => nomatch (List.mem_singleton.mp hls ▸ hl : l ∈ ([] : List Lvl))), Nat.le_refl 0, Int.le_refl 0⟩
theorem K7.out {a : Ad} {H0 H : Hp} {pp x p so b : Addr} {L : Lay} {D : Db} {Ls : List TxA} {stk : List (List Lvl)} {ss : List Str} {c : Nat} {o : HO} (h : K7 a H0 pp x p so H L D Ls stk ss c) (f : H0 b = none) (ni : ∀ C dx fs, H b ≠ some (.ins C dx fs)) (nb : ¬ (b = pp ∨ Mut L b ∨ b ∈ muts p so Ls ∨ b ∈ imms Ls)) : K7 a H0 pp x p so (upd H b o) L D Ls stk ss c := by
  obtain ⟨u, h1, h2⟩ := h.pool
  have k : Kp (fun q => q = b) H (upd H b o) := Kp.refl.set1
  exact ⟨Kp.same h.same k fun q e => e ▸ f, ⟨u, k _ _ h1 (fun e => nb (.inl e.symm)), h2⟩, h.dat.kpS k fun q e => ⟨fun z => nb (.inr (.inl (e ▸ z))), fun C dx fs z => ni C dx fs (e ▸ z)⟩, h.ed, h.mat.keep fun q u m e => k q u e fun z => nb (.inr (.inr (z ▸ m))), h.fre, h.d1, h.d2⟩
theorem K7.add {a : Ad} {H0 H : Hp} {pp x p so b : Addr} {L : Lay} {D : Db} {Ls : List TxA} {stk : List (List Lvl)} {ss : List Str} {c : Nat} {o : HO} (h : K7 a H0 pp x p so H L D Ls stk ss c) (e : H b = some o) (nb : ¬ (b = pp ∨ Mut L b ∨ b ∈ muts p so Ls ∨ b ∈ imms Ls)) : K7 a (upd H0 b o) pp x p so H L D Ls stk ss c := by
  refine ⟨fun q u z => ?_, h.pool, h.dat, h.ed, h.mat, fun q hq => ?_, h.d1, h.d2⟩
  · by_cases hb : q = b
    · subst hb
      rw [upd_same] at z
      rw [e]; exact z
    · exact h.same q u (by rw [upd, if_neg hb] at z; exact z)
  · have hb : q ≠ b := fun z => nb (z ▸ hq)
    rw [upd, if_neg hb]
    exact h.fre q hq
theorem recs_w {D : Db} {stk : List (List Lvl)} {n : Nat} (g : A7 D stk n) : (∀ ls ∈ stk, ∀ z ∈ recsM ls, asc z) ∧ ∀ z ∈ outerM stk, asc z := by
  have h1 : ∀ ls ∈ stk, ∀ z ∈ recsM ls, asc z := fun ls hls z hz => by
    have hz : z ∈ sortT (setT (cat ls)) := hz
    rw [sortT_mem, setT_mem] at hz
    obtain ⟨y, hy, hz⟩ := List.mem_flatten.mp hz
    obtain ⟨l, hl, rfl⟩ := List.mem_map.mp hy
    exact (g.wl ls hls l (by first | exact hl | exact List.mem_reverse.mp hl) z hz).asc
  refine ⟨h1, fun z hz => ?_⟩
  have hz : z ∈ sortT (setT ((stk.tail.reverse.map recsM).flatten)) := hz
  rw [sortT_mem, setT_mem] at hz
  obtain ⟨y, hy, hz⟩ := List.mem_flatten.mp hz
  obtain ⟨ls, hls, rfl⟩ := List.mem_map.mp hy
  exact h1 ls (List.mem_of_mem_tail (List.mem_reverse.mp hls)) z hz
def spLaw (K : PySem.W.Frag) : Sp := fun vs H Q _ => ∃ (p : Addr) (ns : List Int), vs = [.ref p] ∧ SqL K H p (ns.map V.int) ∧ ns.length ≤ 63 ∧ ∀ H', Q (.bl true) H'
theorem ok_law (T : Txt K mg a d) : FnOk P w K mg base CX0 9 a.law d.law ["_law_script"] (spLaw K) := by
  have G_law_pool : FnOk P w K mg base CX0 1 a.law_pool d.law_pool ["_law_script", "_law_at"] (spPool K) := ok_law_pool T
  have G_law_word : FnOk P w K mg base CX0 2 a.law_word d.law_word ["_law_pool_here"] spWord := ok_law_word T
  have G_DatabaseU_initU : FnOk P w K mg base CX0 1 a.DatabaseU_initU d.DatabaseU_initU ["self"] (spDbI a) := ok_DatabaseU_initU T
  have G_law_step : FnOk P w K mg base CX0 7 a.law_step d.law_step ["_law_pool_here", "_law_db", "_law_stack", "_law_sorts", "_law_words"] (spS7 a) := ok_law_step T
  have G_law_records : FnOk P w K mg base CX0 1 a.law_records d.law_records ["_law_levels"] spLRecs := ok_law_records T
  have G_law_outer : FnOk P w K mg base CX0 2 a.law_outer d.law_outer ["_law_stack"] spLOuter := ok_law_outer T
  have G_Database_outer_records : FnOk P w K mg base CX0 2 a.Database_outer_records d.Database_outer_records ["self"] (spRecs a outerL) := ok_Database_outer_records T
  have G_Database_held_records : FnOk P w K mg base CX0 2 a.Database_held_records d.Database_held_records ["self"] (spRecs a ownL) := ok_Database_held_records T
  refine T.law.ok sc_law (fun vs H Q E h => ?_) (fun cdv A outer s H vs Q E hr h => ?_)
  · obtain ⟨p, ns, rfl, _⟩ := h
    rfl
  · obtain ⟨sa, ns, rfl, hS, hl, k⟩ := h
    refine ⟨_, (pss_cons (ps_for PassesOwn.never rfl (pi_range1 (by rfl) T.n_range (pa_cons (pe_callB (call_max2 rfl) (by rfl) T.n_max (by decide +kernel) (pa_cons pe_int (pa_cons (pe_callB (call_min2 rfl) (by rfl) T.n_min (by decide +kernel) (pa_cons pe_int (pa_cons (pe_callB call_len_seq (by rfl) T.n_len PySem.boot_len (pa_cons (pv 0) pa_nil)) pa_nil))) pa_nil))) pa_nil)) (pg_name (i := 1) sc_law.nd rfl (Or.inl rfl))
  (pss_cons (ps_set (i := 2) sc_law.nd rfl (Or.inr rfl) (pe_call G_law_pool (hr.mono (by decide)) (by rfl) T.g_law_pool T.law_pool.kp T.b_law_pool .nil pass0 (pa_cons (pv 0) (pa_cons (pv 1) pa_nil))))
  (pss_cons (ps_par3 (i := 3) (j := 4) (l := 5) rfl sc_law.nd rfl rfl rfl (by decide) (by decide) (by decide) rfl rfl rfl (pa_cons (pe_make0 T.mk_Database G_DatabaseU_initU (hr.mono (by decide)) (by rfl) T.g_Database T.b_DatabaseU_initU .nil pass0) (pa_cons (pe_lst (pa_cons (pe_lst pa_nil) pa_nil)) (pa_cons (pe_lst pa_nil) pa_nil))) (by rfl))
  (pss_cons (ps_setLc (i := 6) (own := [("_law_k", 10)]) (tt := tYes) rfl sc_law.nd rfl rfl (sw_true rfl rfl rfl (by decide +kernel)) (pi_range1 (by rfl) T.n_range (pa_cons pe_int pa_nil)) (blkOk_by (own := [("_law_k", 10)]) (N := ["_law_script", "_law_at", "_law_pool_here", "_law_db", "_law_stack", "_law_sorts", "_law_words", "_law_turn", "_law_held", "_law_outer_here", "_law_k"]) (sc := defScope s_law) (by decide +kernel)) (fun _ _ _ _ _ => (pg_name (i := 10) sc_law.nd rfl (Or.inl rfl))) (fun _ _ _ _ _ => pts_nil) (fun _ _ _ _ _ => (pe_call G_law_word (hr.mono (by decide)) (by rfl) T.g_law_word T.law_word.kp T.b_law_word .nil pass0 (pa_cons (pv 2) pa_nil))))
  (pss_one (ps_for PassesOwn.never rfl (pi_range1 (by rfl) T.n_range (pa_cons pe_int pa_nil)) (pg_name (i := 7) sc_law.nd rfl (Or.inl rfl))
  (pss_cons (ps_if (pt_not (pt_val (pe_call G_law_step (hr.mono (by decide)) (by rfl) T.g_law_step T.law_step.kp T.b_law_step .nil pass0 (pa_cons (pv 2) (pa_cons (pv 3) (pa_cons (pv 4) (pa_cons (pv 5) (pa_cons (pv 6) pa_nil)))))))) (pss_one (ps_ret pe_bl)) pss_nil)
  (pss_cons (ps_par (i := 8) (j := 9) rfl sc_law.nd rfl rfl (by decide) rfl rfl (pa_cons (pe_meth0 (pv 3) T.k_Database T.m_Database_held_records G_Database_held_records (hr.mono (by decide)) T.b_Database_held_records .nil pass0) (pa_cons (pe_meth0 (pv 3) T.k_Database T.m_Database_outer_records G_Database_outer_records (hr.mono (by decide)) T.b_Database_outer_records .nil pass0) pa_nil)) (by rfl))
  (pss_cons (ps_if (PW.pt (pw_or (pt_not (pt_val (pe_callB call_isi (by rfl) T.n_isinstance (by decide +kernel) (pa_cons (pv 8) (pa_cons (pe_bltn (v := .ty "list") (u := .type "list") (by rfl) T.n_list (by decide +kernel) rfl) pa_nil))))) (pw_or1 (pt_not (pt_val (pe_callB call_isi (by rfl) T.n_isinstance (by decide +kernel) (pa_cons (pv 9) (pa_cons (pe_bltn (v := .ty "list") (u := .type "list") (by rfl) T.n_list (by decide +kernel) rfl) pa_nil)))))))) (pss_one (ps_ret pe_bl)) pss_nil)
  (pss_cons (ps_if (PW.pt (pw_or (pt_cmpR (op_neD hr.units) (pv 8) (pe_call G_law_records (hr.mono (by decide)) (by rfl) T.g_law_records T.law_records.kp T.b_law_records .nil pass0 (pa_cons (pe_ix ix_list (pv 4) (pe_un un_neg pe_int) (fun _ _ => rfl)) pa_nil)) (nomark _)) (pw_or1 (pt_cmpR (op_neD hr.units) (pv 9) (pe_call G_law_outer (hr.mono (by decide)) (by rfl) T.g_law_outer T.law_outer.kp T.b_law_outer .nil pass0 (pa_cons (pv 4) pa_nil)) (nomark _))))) (pss_one (ps_ret pe_bl)) pss_nil)
  (pss_cons (ps_expr (pe_bm PySem.F.plainAttrs_list PySem.F.slot_list_append PySem.F.type_list_append mt_append (pv 8) (pa_cons pe_str pa_nil)))
  (pss_one (ps_expr (pe_bm PySem.F.plainAttrs_list PySem.F.slot_list_append PySem.F.type_list_append mt_append (pv 9) (pa_cons pe_str pa_nil)))))))))))))))
  (pss_one (ps_ret pe_bl))), ?_⟩
    dsimp only [cxOf]
    walk_at "rd"
    refine for_range (fun i σ H1 => i ≤ 63 ∧ Same H H1 ∧ ∃ v1 v2 v3 v4 v5 v6 v7 v8 v9 v10, σ = [some (.ref sa), v1, v2, v3, v4, v5, v6, v7, v8, v9, v10]) ?_ ?_ ?_
    · exact ⟨by omega, Same.refl H, _, _, _, _, _, _, _, _, _, _, rfl⟩
    · rintro i σ H1 hi ⟨h12, s1, v1, v2, v3, v4, v5, v6, v7, v8, v9, v10, rfl⟩
      have hi12 : i < 63 := by revert hi; split <;> split <;> omega
      refine ⟨_, rfl, _, rfl, sa, ns, i, ?_, s1.seq hS, by omega, fun p o hp ho => ?_⟩
      · rw [Int.zero_add]; rfl
      walk_at "rd"
      intro x dx hx hdx nxd
      refine ⟨x, dx, rfl, upd_same, fun H2 L hD el kp mt => ⟨rfl, ?_⟩⟩
      obtain ⟨nxp, hx1⟩ := none_upd hx
      have s2 : Same (upd H1 p o) H2 := fun b u e => kp b u (upd_oth (ne_of_none e hx) (upd_oth (ne_of_none e hdx) e)) (ne_of_none e hx)
      have s12 : Same H H2 := (s1.new hp).trans s2
      have hp2 : H2 p = some o := s2 _ _ upd_same
      have mt0 : ∀ b, Mut L b → H b = none ∧ b ≠ p := fun b hb => by
        rcases mt b hb with rfl | z
        · exact ⟨s1.free hx1, nxp⟩
        · obtain ⟨z1, z⟩ := none_upd z
          obtain ⟨z2, z⟩ := none_upd z
          exact ⟨(s1.new hp).free z, (none_upd z).1⟩
      walk_at "rd"
      intro n1 g1
      walk_at "rd"
      intro n2 g2
      walk_at "rd"
      intro n3 g3
      walk_at "rd"
      have q12 := ne_of_none (upd_same (H := H2) (a := n1) (o := .lst [])) g2
      obtain ⟨q13, g3'⟩ := none_upd g3
      obtain ⟨q23, g3''⟩ := none_upd g3'
      have I0 : K7 a H p x n2 n3 (upd (upd (upd H2 n1 (.lst [])) n2 (.lst [.ref n1])) n3 (.lst [])) L ⟨[], [none], [], 0, 0⟩ [(n1, [])] [[]] [] 0 := by
        refine ⟨((s12.new (o := .lst []) g1).new (o := .lst [.ref n1]) g2).new (o := .lst []) g3, ⟨o, upd_old (upd_old (upd_old hp2 g1) g2) g3, ho⟩, ((hD.new g1).new g2).new g3, el,
          ⟨upd_old upd_same g3, upd_same, .cons ⟨upd_old (upd_old upd_same g2) g3, .nil⟩ .nil, ?_, (fun r hr => nomatch hr)⟩, ?_, ?_, fun z => (mt0 p z).2 rfl⟩
        · show [n2, n3, n1].Nodup
          simp only [List.nodup_cons, List.mem_cons, List.not_mem_nil, or_false, not_or, List.nodup_nil, and_true, not_false_eq_true]
          exact ⟨⟨ne_of_none upd_same g3, Ne.symm q12⟩, Ne.symm (ne_of_none (upd_old upd_same g2) g3)⟩
        · intro b hb
          rcases hb with rfl | hb | hb | hb
          · exact s1.free hp
          · exact (mt0 b hb).1
          · have hb : b ∈ [n2, n3, n1] := hb
            simp only [List.mem_cons, List.not_mem_nil, or_false] at hb
            rcases hb with rfl | rfl | rfl
            · exact s12.free (none_upd g2).2
            · exact s12.free g3''
            · exact s12.free g1
          · cases hb
        · intro b hb
          rcases hb with hb | hb
          · have hb : b ∈ [n2, n3, n1] := hb
            simp only [List.mem_cons, List.not_mem_nil, or_false] at hb
            rcases hb with rfl | rfl | rfl
            · exact ⟨hD.fresh (none_upd g2).2, fun e => by rw [e, upd_old hp2 g1] at g2; cases g2⟩
            · exact ⟨hD.fresh g3'', fun e => by rw [e, hp2] at g3''; cases g3''⟩
            · exact ⟨hD.fresh g1, fun e => by rw [e, hp2] at g1; cases g1⟩
          · cases hb
      generalize upd (upd (upd H2 n1 (.lst [])) n2 (.lst [.ref n1])) n3 (.lst []) = H3 at I0 ⊢
      intro wo hwo
      have f0 : H wo = none := I0.same.free hwo
      have nb : ¬ (wo = p ∨ Mut L wo ∨ wo ∈ muts n2 n3 [(n1, [])] ∨ wo ∈ imms [(n1, [])]) := by
        rintro (h | h | h)
        · obtain ⟨o, h1, _⟩ := I0.pool
          rw [h, h1] at hwo; cases hwo
        · exact I0.dat.fresh hwo h
        · obtain ⟨xs, e⟩ := I0.mat.there h
          rw [hwo] at e; cases e
      refine lc_range (fun j H' => ∃ ws : List Str, ws.length = j ∧ j ≤ 5 ∧ (∀ z ∈ ws, IsWord z) ∧ K7 a H p x n2 n3 H' L ⟨[], [none], [], 0, 0⟩ [(n1, [])] [[]] [] (9 * j) ∧ H' wo = some (.lst (ws.map V.str))) ?_ ?_ ?_
      · exact ⟨[], rfl, by omega, (fun z hz => nomatch hz), I0.keep ((Same.refl _).new hwo), upd_same⟩
      · rintro j H4 hj ⟨ws, el5, hj5, hws, I4, hw4⟩
        have hj5 : j < 5 := hj
        refine ⟨rfl, ?_⟩
        obtain ⟨o4, hp4, ho4⟩ := I4.pool
        walk_at "rd"
        intro w5 o5 H5 hw5 h5 hp5 kp5
        have I5 := I4.draw kp5 hp5 h5
        have hwo5 := kp5 _ _ hw4 (fun z => nb (.inl z))
        refine ⟨_, hwo5, ?_, ws ++ [w5], ?_, by omega, ?_, (I5.out f0 (fun C dx fs z => by rw [hwo5] at z; cases z) nb).up (by omega), ?_⟩
        · rw [List.length_map, sizeLine_eq]; omega
        · rw [List.length_append, el5]; rfl
        · intro z hz
          rcases List.mem_append.mp hz with hz | hz
          · exact hws z hz
          · exact List.mem_singleton.mp hz ▸ hw5
        · rw [upd_same, List.map_append]; rfl
      · rintro H5 ⟨ws, el5, _, hws, I5, hw5⟩
        have I6 := I5.add hw5 nb
        have hb0 := upd_same (H := H) (a := wo) (o := .lst (ws.map V.str))
        have sb : Same H (upd H wo (.lst (ws.map V.str))) := (Same.refl H).new f0
        generalize upd H wo (.lst (ws.map V.str)) = B0 at I6 hb0 sb ⊢
        walk_at "rd"
        refine for_range (fun j σ H' => j ≤ 36 ∧ ∃ L D Ls stk v7 v8 v9 v10, K7 a B0 p x n2 n3 H' L D Ls stk D.entered (45 + 20 * j) ∧ A7 D stk j ∧ σ = [some (.ref sa), some (.int (0 + (i : Int))), some (.ref p), some (.ref x), some (.ref n2), some (.ref n3), some (.ref wo), v7, v8, v9, v10]) ?_ ?_ ?_
        · exact ⟨by omega, L, _, _, _, _, _, _, _, I6, a7_new, rfl⟩
        · rintro j σ H7 hj ⟨_, L, D, Ls, stk, v7, v8, v9, v10, I7, g7, rfl⟩
          have hj13 : j < 36 := hj
          walk_at "rd"
          refine ⟨B0, p, x, n2, n3, wo, ws, L, D, Ls, stk, _, j, rfl, hb0, el5, hws, I7, g7, by omega, by omega, fun H8 L8 D8 Ls8 stk8 I8 g8 => ?_⟩
          have hx8 := I8.dat.db
          rw [I8.ed] at hx8
          walk_at "rd"
          refine ⟨L8, D8, by rw [I8.ed]; rfl, I8.dat, g8.sm (by omega), fun H9 r9 s9 hr9 fr9 => ?_⟩
          have I9 := I8.keep s9
          have hx9 := s9 _ _ hx8
          walk_at "rd"
          refine ⟨L8, D8, by rw [I8.ed]; rfl, I9.dat, g8.sm (by omega), fun H10 r10 s10 hr10 fr10 => ?_⟩
          have I10 := I9.keep s10
          have hq9 := s10 _ _ hr9
          walk_at "rd"
          refine ⟨.ty _, .base (.lst hq9), kit_ty (show kitB "list" "list" = some true by decide +kernel), ?_⟩
          walk_at "rd"
          refine ⟨.ty _, .base (.lst hr10), kit_ty (show kitB "list" "list" = some true by decide +kernel), ?_⟩
          obtain ⟨lsT, restT, eT, eown, eout⟩ := g8.held
          obtain ⟨w1, w2⟩ := recs_w g8
          subst eT
          obtain ⟨q, Lr, hLs⟩ := I10.tqs
          subst hLs
          have hp10 := I10.mat.hp
          have i1 := rv_at (f := txV) (x := q) (l := Lr)
          rw [show txV q = V.ref q.1 from rfl] at i1
          have tot := g8.tot
          walk_at "rd"
          refine ⟨q, lsT, rfl, I10.tq, by unfold totL at tot; simp only [List.map_cons, List.sum_cons] at tot; unfold szL; omega, fun H11 r11 s11 hr11 fr11 => ?_⟩
          have I11 := I10.keep s11
          have hq10 := s11 _ _ hr10
          rw [eown] at hq9 hr9
          have sh1 := shaped_strs (w1 lsT List.mem_cons_self)
          refine ⟨_, _, .lst (SqL.of (s11 _ _ hq9)) (dp_strs _), .lst (SqL.of hr11) (dp_strs _), sh1, sh1, ?_⟩
          rw [SeqAt.eqv_refl _ (SeqAt.canLay_of_shaped sh1)]
          have hp11 := I11.mat.hp
          walk_at "rd"
          refine ⟨I11.mat.hq, by simp, by omega, fun H12 r12 s12 hr12 fr12 => ?_⟩
          rw [eout] at hq10 hr10
          have sh2 := shaped_strs w2
          refine ⟨_, _, .lst (SqL.of (s12 _ _ hq10)) (dp_strs _), .lst (SqL.of hr12) (dp_strs _), sh2, sh2, ?_⟩
          rw [SeqAt.eqv_refl _ (SeqAt.canLay_of_shaped sh2)]
          have ha9 := s12 _ _ (s11 _ _ hq9)
          have ha10 := s12 _ _ hq10
          have ne : r10 ≠ r9 := fun e => by rw [e, hr9] at fr10; cases fr10
          have z1 : ((recsM lsT).map V.str).length < sizeLine := by
            rw [List.length_map, sizeLine_eq]
            have := recsM_len lsT
            have := sz_mem (stk := lsT :: restT) List.mem_cons_self
            omega
          have z2 : ((outerM (lsT :: restT)).map V.str).length < sizeLine := by
            rw [List.length_map, sizeLine_eq]
            have h1 := outI_len restT restT.length
            rw [outI_all] at h1
            have h2 : totL (lsT :: restT) = szL lsT + totL restT := rfl
            unfold outerM
            rw [sortT_len]
            have h3 := setT_len (xs := (((lsT :: restT).tail.reverse.map recsM).flatten))
            have h4 : (((lsT :: restT).tail.reverse.map recsM).flatten).length ≤ totL restT := h1
            omega
          have ha10' := upd_oth (o := .lst ((recsM lsT).map V.str ++ [V.str "held"])) ne ha10
          have sE : Same H8 (upd (upd H12 r9 (.lst ((recsM lsT).map V.str ++ [V.str "held"]))) r10 (.lst ((outerM (lsT :: restT)).map V.str ++ [V.str "outer"]))) := (((s9.trans s10).trans (s11.trans s12)).frsh fr9).frsh (s9.free fr10)
          walk_at "rd"
          exact ⟨L8, D8, _, _, _, _, _, _, (I8.keep sE).up (by omega), g8, rfl⟩
        · rintro σ H7 ⟨hj, L, D, Ls, stk, v7, v8, v9, v10, I7, g7, rfl⟩
          exact ⟨by omega, sb.trans I7.same, _, _, _, _, _, _, _, _, _, _, rfl⟩
    · rintro σ H1 ⟨_, s1, v1, v2, v3, v4, v5, v6, v7, v8, v9, v10, rfl⟩
      exact k H1
end
theorem all_mk {w : World} {K : PySem.W.Frag} {h : Heap} {mg : Str → Option Value} {fa : Addr} (X : K.In h) (G : h.Ns mainGlobals mg) (hfa : mg "law" = some (.ref fa))
    {C1 : Addr}
    {t6 : Tok}
    {t8 : Tok}
    {t10 : Tok}
    {t12 : Tok}
    {t14 : Tok}
    {t16 : Tok}
    {t18 : Tok}
    {t20 : Tok}
    {t24 t25 t26 t27 t28 t29 t30 t31 : Tok} {p22 : Addr} {dd32 : Option Addr} {nn33 : Nat} {sl34 : Array (Option Value)}
    {f35 p36 : Addr} {rs39 : List Value}
    {od40 an40 : Option Addr} {sl40 : Array (Option Value)} {oc40 kV40 dc40 pm40 cd40 ct40 : Value}
    {f41 : Addr}
    {od43 an43 : Option Addr} {sl43 : Array (Option Value)} {oc43 kV43 dc43 pm43 cd43 ct43 : Value}
    {C45 : Addr}
    {f47 : Addr} {nm48 qn48 : Str} {N48 : Addr} {bs48 bm48 : List Value} {sn48 : List Str} {sub48 : List Value} {ab48 : Bool} {col48 : Option Bool} {dd48 : Option Addr} {k048 k148 k248 k348 k548 : Option Value}
    {oc48 : Value} {od48 : Option Addr} {doc48 pm48 : Value} {an48 : Option Addr} {cda48 cc48 : Addr} {ct48 : Value} {osl48 : Array (Option Value)} {ccl48 : Value} {cdd48 : Option Addr} {vs48 : Array Value} {ccs48 : Array (Option Value)} {tf48 : Tok} {cl48 : Value} {cld48 : Option Addr} {csl48 : Array (Option Value)}
    {C71 : Addr}
    {f73 : Addr} {nm74 qn74 : Str} {N74 : Addr} {bs74 bm74 : List Value} {sn74 : List Str} {sub74 : List Value} {ab74 : Bool} {col74 : Option Bool} {dd74 : Option Addr} {k074 k174 k274 k374 k574 : Option Value}
    {oc74 : Value} {od74 : Option Addr} {doc74 pm74 : Value} {an74 : Option Addr} {cda74 cc74 : Addr} {ct74 : Value} {osl74 : Array (Option Value)} {ccl74 : Value} {cdd74 : Option Addr} {vs74 : Array Value} {ccs74 : Array (Option Value)} {tf74 : Tok} {cl74 : Value} {cld74 : Option Addr} {csl74 : Array (Option Value)}
    {C97 : Addr}
    {f99 : Addr} {nm100 qn100 : Str} {N100 : Addr} {bs100 bm100 : List Value} {sn100 : List Str} {sub100 : List Value} {ab100 : Bool} {col100 : Option Bool} {dd100 : Option Addr} {k0100 k1100 k2100 k3100 k5100 : Option Value}
    {oc100 : Value} {od100 : Option Addr} {doc100 pm100 : Value} {an100 : Option Addr} {cda100 cc100 : Addr} {ct100 : Value} {osl100 : Array (Option Value)} {ccl100 : Value} {cdd100 : Option Addr} {vs100 : Array Value} {ccs100 : Array (Option Value)} {tf100 : Tok} {cl100 : Value} {cld100 : Option Addr} {csl100 : Array (Option Value)}
    {C123 : Addr}
    {f125 : Addr} {nm126 qn126 : Str} {N126 : Addr} {bs126 bm126 : List Value} {sn126 : List Str} {sub126 : List Value} {ab126 : Bool} {col126 : Option Bool} {dd126 : Option Addr} {k0126 k1126 k2126 k3126 k5126 : Option Value}
    {oc126 : Value} {od126 : Option Addr} {doc126 pm126 : Value} {an126 : Option Addr} {cda126 cc126 : Addr} {ct126 : Value} {osl126 : Array (Option Value)} {ccl126 : Value} {cdd126 : Option Addr} {vs126 : Array Value} {ccs126 : Array (Option Value)} {tf126 : Tok} {cl126 : Value} {cld126 : Option Addr} {csl126 : Array (Option Value)}
    {C148 : Addr}
    {f150 : Addr} {nm151 qn151 : Str} {N151 : Addr} {bs151 bm151 : List Value} {sn151 : List Str} {sub151 : List Value} {ab151 : Bool} {col151 : Option Bool} {dd151 : Option Addr} {k0151 k1151 k2151 k3151 k5151 : Option Value}
    {oc151 : Value} {od151 : Option Addr} {doc151 pm151 : Value} {an151 : Option Addr} {cda151 cc151 : Addr} {ct151 : Value} {osl151 : Array (Option Value)} {ccl151 : Value} {cdd151 : Option Addr} {vs151 : Array Value} {ccs151 : Array (Option Value)} {tf151 : Tok} {cl151 : Value} {cld151 : Option Addr} {csl151 : Array (Option Value)}
    {C172 : Addr}
    {f174 : Addr} {nm175 qn175 : Str} {N175 : Addr} {bs175 bm175 : List Value} {sn175 : List Str} {sub175 : List Value} {ab175 : Bool} {col175 : Option Bool} {dd175 : Option Addr} {k0175 k1175 k2175 k3175 k5175 : Option Value}
    {oc175 : Value} {od175 : Option Addr} {doc175 pm175 : Value} {an175 : Option Addr} {cda175 cc175 : Addr} {ct175 : Value} {osl175 : Array (Option Value)} {ccl175 : Value} {cdd175 : Option Addr} {vs175 : Array Value} {ccs175 : Array (Option Value)} {tf175 : Tok} {cl175 : Value} {cld175 : Option Addr} {csl175 : Array (Option Value)}
    {C198 : Addr}
    {f200 : Addr} {nm201 qn201 : Str} {N201 : Addr} {bs201 bm201 : List Value} {sn201 : List Str} {sub201 : List Value} {ab201 : Bool} {col201 : Option Bool} {dd201 : Option Addr} {k0201 k1201 k2201 k3201 k5201 : Option Value}
    {oc201 : Value} {od201 : Option Addr} {doc201 pm201 : Value} {an201 : Option Addr} {cda201 cc201 : Addr} {ct201 : Value} {osl201 : Array (Option Value)} {ccl201 : Value} {cdd201 : Option Addr} {vs201 : Array Value} {ccs201 : Array (Option Value)} {tf201 : Tok} {cl201 : Value} {cld201 : Option Addr} {csl201 : Array (Option Value)}
    {C223 : Addr}
    {f225 : Addr} {nm226 qn226 : Str} {N226 : Addr} {bs226 bm226 : List Value} {sn226 : List Str} {sub226 : List Value} {ab226 : Bool} {col226 : Option Bool} {dd226 : Option Addr} {k0226 k1226 k2226 k3226 k5226 : Option Value}
    {oc226 : Value} {od226 : Option Addr} {doc226 pm226 : Value} {an226 : Option Addr} {cda226 cc226 : Addr} {ct226 : Value} {osl226 : Array (Option Value)} {ccl226 : Value} {cdd226 : Option Addr} {vs226 : Array Value} {ccs226 : Array (Option Value)} {tf226 : Tok} {cl226 : Value} {cld226 : Option Addr} {csl226 : Array (Option Value)}
    {C248 : Addr}
    {f250 : Addr} {nm251 qn251 : Str} {N251 : Addr} {bs251 bm251 : List Value} {sn251 : List Str} {sub251 : List Value} {ab251 : Bool} {col251 : Option Bool} {dd251 : Option Addr} {k0251 k1251 k2251 k3251 k5251 : Option Value}
    {oc251 : Value} {od251 : Option Addr} {doc251 pm251 : Value} {an251 : Option Addr} {cda251 cc251 : Addr} {ct251 : Value} {osl251 : Array (Option Value)} {ccl251 : Value} {cdd251 : Option Addr} {vs251 : Array Value} {ccs251 : Array (Option Value)} {tf251 : Tok} {cl251 : Value} {cld251 : Option Addr} {csl251 : Array (Option Value)}
    {C278 : Addr}
    {f289 : Addr}
    {od294 an294 : Option Addr} {sl294 : Array (Option Value)} {oc294 kV294 dc294 pm294 cd294 ct294 : Value}
    {C295 : Addr}
    {f303 : Addr}
    {od308 an308 : Option Addr} {sl308 : Array (Option Value)} {oc308 kV308 dc308 pm308 cd308 ct308 : Value}
    {C309 : Addr}
    {f320 : Addr}
    {od325 an325 : Option Addr} {sl325 : Array (Option Value)} {oc325 kV325 dc325 pm325 cd325 ct325 : Value}
    {f326 : Addr}
    {od329 an329 : Option Addr} {sl329 : Array (Option Value)} {oc329 kV329 dc329 pm329 cd329 ct329 : Value}
    {f330 : Addr}
    {od333 an333 : Option Addr} {sl333 : Array (Option Value)} {oc333 kV333 dc333 pm333 cd333 ct333 : Value}
    {f334 : Addr}
    {od337 an337 : Option Addr} {sl337 : Array (Option Value)} {oc337 kV337 dc337 pm337 cd337 ct337 : Value}
    {f338 : Addr}
    {od341 an341 : Option Addr} {sl341 : Array (Option Value)} {oc341 kV341 dc341 pm341 cd341 ct341 : Value}
    {f342 : Addr}
    {od345 an345 : Option Addr} {sl345 : Array (Option Value)} {oc345 dc345 pm345 cd345 ct345 : Value}
    {T346 : Addr} {oc347 : Value} {od348 : Option Addr} {on349 : Nat} {os350 : Array (Option Value)}
    {t351 : Tok}
    {kV345 : Value}
    {f353 : Addr}
    {od356 an356 : Option Addr} {sl356 : Array (Option Value)} {oc356 kV356 dc356 pm356 cd356 ct356 : Value}
    {f357 : Addr}
    {od360 an360 : Option Addr} {sl360 : Array (Option Value)} {oc360 kV360 dc360 pm360 cd360 ct360 : Value}
    {f361 : Addr}
    {od364 an364 : Option Addr} {sl364 : Array (Option Value)} {oc364 dc364 pm364 cd364 ct364 : Value}
    {T365 : Addr} {oc366 : Value} {od367 : Option Addr} {on368 : Nat} {os369 : Array (Option Value)}
    {D372 : Addr}
    {f375 : Addr}
    {od378 an378 : Option Addr} {sl378 : Array (Option Value)} {oc378 kV378 dc378 pm378 cd378 ct378 : Value}
    {f379 : Addr}
    {od382 an382 : Option Addr} {sl382 : Array (Option Value)} {oc382 kV382 dc382 pm382 cd382 ct382 : Value}
    {f383 : Addr}
    {od386 an386 : Option Addr} {sl386 : Array (Option Value)} {oc386 kV386 dc386 pm386 cd386 ct386 : Value}
    {f387 : Addr}
    {od390 an390 : Option Addr} {sl390 : Array (Option Value)} {oc390 kV390 dc390 pm390 cd390 ct390 : Value}
    {f391 : Addr}
    {od394 an394 : Option Addr} {sl394 : Array (Option Value)} {oc394 kV394 dc394 pm394 cd394 ct394 : Value}
    {f395 : Addr}
    {od398 an398 : Option Addr} {sl398 : Array (Option Value)} {oc398 kV398 dc398 pm398 cd398 ct398 : Value}
    {f400 : Addr}
    {od402 an402 : Option Addr} {sl402 : Array (Option Value)} {oc402 kV402 dc402 pm402 cd402 ct402 : Value}
    {f403 : Addr}
    {od405 an405 : Option Addr} {sl405 : Array (Option Value)} {oc405 kV405 dc405 pm405 cd405 ct405 : Value}
    {f406 : Addr}
    {od408 an408 : Option Addr} {sl408 : Array (Option Value)} {oc408 kV408 dc408 pm408 cd408 ct408 : Value}
    {f409 : Addr}
    {od411 an411 : Option Addr} {sl411 : Array (Option Value)} {oc411 kV411 dc411 pm411 cd411 ct411 : Value}
    {f412 : Addr}
    {od414 an414 : Option Addr} {sl414 : Array (Option Value)} {oc414 kV414 dc414 pm414 cd414 ct414 : Value}
    {f415 : Addr}
    {od417 an417 : Option Addr} {sl417 : Array (Option Value)} {oc417 kV417 dc417 pm417 cd417 ct417 : Value}
    {f418 : Addr}
    {od420 an420 : Option Addr} {sl420 : Array (Option Value)} {oc420 kV420 dc420 pm420 cd420 ct420 : Value}
    {f421 : Addr}
    {od423 an423 : Option Addr} {sl423 : Array (Option Value)} {oc423 kV423 dc423 pm423 cd423 ct423 : Value}
    {f424 : Addr}
    {od426 an426 : Option Addr} {sl426 : Array (Option Value)} {oc426 kV426 dc426 pm426 cd426 ct426 : Value}
    {od427 an427 : Option Addr} {sl427 : Array (Option Value)} {oc427 kV427 dc427 pm427 cd427 ct427 : Value}
    (a2 : PySem.W.nsIn K mainGlobals "Mode" = some (some (.ref C1)))
    (r3 : PySem.W.readsIn K C1 (.type "type") = true)
    (s4 : PySem.W.specialIn K (.ref C1) "__getattribute__" = some (some (.builtin "type.__getattribute__")))
    (z5 : PySem.W.findCls K (.ref C1) (.type "type") "JOIN" = some (.val (.str "join" t6)))
    (z7 : PySem.W.findCls K (.ref C1) (.type "type") "INNER" = some (.val (.str "inner" t8)))
    (z9 : PySem.W.findCls K (.ref C1) (.type "type") "APART" = some (.val (.str "apart" t10)))
    (z11 : PySem.W.findCls K (.ref C1) (.type "type") "MUST" = some (.val (.str "must" t12)))
    (z13 : PySem.W.findCls K (.ref C1) (.type "type") "EITHER" = some (.val (.str "either" t14)))
    (z15 : PySem.W.findCls K (.ref C1) (.type "type") "NEVER" = some (.val (.str "never" t16)))
    (z17 : PySem.W.findCls K (.ref C1) (.type "type") "OUTSIDE" = some (.val (.str "outside" t18)))
    (z19 : PySem.W.findCls K (.ref C1) (.type "type") "ALONE" = some (.val (.str "alone" t20)))
    (z21 : PySem.W.findCls K (.ref C1) (.type "type") "ALL" = some (.val (.ref p22)))
    (l23 : K.lookup p22 = some ⟨.type "tuple", dd32, .seq #[.str "join" t24, .str "inner" t25, .str "apart" t26, .str "must" t27, .str "either" t28, .str "never" t29, .str "outside" t30, .str "alone" t31] nn33, sl34⟩)
    (z37 : PySem.W.findCls K (.ref C1) (.type "type") "is_mode" = some (.get (.builtin "staticmethod.__get__") (.ref p36) .none (.ref C1)))
    (r38 : PySem.W.recIn K p36 "staticmethod" = some (.ref f35 :: rs39))
    (l40 : K.lookup f35 = some ⟨oc40, od40, .func (PySem.W.fnOf "is_mode" "Mode.is_mode" (defArgs s_Mode_is_mode) (defBody s_Mode_is_mode) (defScope s_Mode_is_mode) .none kV40 dc40 pm40 an40 cd40 ct40), sl40⟩)
    (c40 : PySem.W.codeIn K cd40 "Mode.is_mode" = true)
    (k40 : PySem.W.keepIn K (.ref f35) = true)
    (a42 : PySem.W.nsIn K mainGlobals "is_word" = some (some (.ref f41)))
    (l43 : K.lookup f41 = some ⟨oc43, od43, .func (PySem.W.fnOf "is_word" "is_word" (defArgs s_is_word) (defBody s_is_word) (defScope s_is_word) .none kV43 dc43 pm43 an43 cd43 ct43), sl43⟩)
    (c43 : PySem.W.codeIn K cd43 "is_word" = true)
    (k43 : PySem.W.keepIn K (.ref f41) = true)
    (z44 : PySem.W.nsIn K cStatics "thirdparty.any" = some none)
    (a46 : PySem.W.nsIn K mainGlobals "Missing" = some (some (.ref C45)))
    (e49 : K.lookup C45 = some (excClassObj nm48 qn48 C45 N48 bs48 bm48 true sn48 sub48 ab48 col48 dd48 k048 k148 k248 k348 k548 "ValueError.__new__"))
    (e50 : PySem.HandSPX.refsVE bm48 = true)
    (e51 : PySem.W.findIn K (.ref C45) "__setattr__" = some (some (.builtin "object.__setattr__")))
    (e52 : PySem.W.findIn K (.ref C45) "__getattribute__" = some (some (.builtin "BaseException.__getattribute__")))
    (e53 : PySem.W.findIn K (.ref C45) "__getattr__" = some none)
    (e54 : PySem.W.findIn K (.ref C45) "__init__" = some (some (.ref f47)))
    (e55 : PySem.W.typeIn K (.ref f47) = some (.type "function"))
    (e56 : PySem.W.keepIn K (.ref C45) = true)
    (e57 : PySem.W.subIn K (.ref C45) (.type "BaseException") = some true)
    (e58 : PySem.W.subIn K (.ref C45) (.type "ValueError") = some true)
    (e59 : PySem.W.typeIn K (.ref C45) = some (.type "type"))
    (e60 : PySem.W.hasDictIn K C45 = true)
    (e61 : PySem.W.ks_superIn K C45 C45 "__init__" = some (some (.builtin "ValueError.__init__")))
    (e62 : PySem.W.mroIn K C45 (.ref C45) = some true)
    (e63 : PySem.W.exmOne K (.ref C45) (.ref C45) = some true)
    (e64 : K.lookup f47 = some ⟨oc48, od48, .func (PySem.W.ksFn "__init__" "Missing.__init__" (defArgs s_MissingU_initU) (defBody s_MissingU_initU) (defScope s_MissingU_initU) .none .none doc48 pm48 an48 (.ref cda48) ct48 cc48), osl48⟩)
    (e65 : PySem.W.codeIn K (.ref cda48) "Missing.__init__" = true)
    (e66 : K.lookup cda48 = some ⟨ccl48, cdd48, .fields vs48, ccs48⟩)
    (e67 : vs48[2]? = some (.str P.main.file tf48))
    (e68 : K.lookup cc48 = some ⟨cl48, cld48, .cell (some (.ref C45)), csl48⟩)
    (e69 : PySem.W.findIn K (.ref C45) "word" = some none)
    (e70 : PySem.W.findIn K (.ref C45) "mode" = some none)
    (a72 : PySem.W.nsIn K mainGlobals "Present" = some (some (.ref C71)))
    (e75 : K.lookup C71 = some (excClassObj nm74 qn74 C71 N74 bs74 bm74 true sn74 sub74 ab74 col74 dd74 k074 k174 k274 k374 k574 "ValueError.__new__"))
    (e76 : PySem.HandSPX.refsVE bm74 = true)
    (e77 : PySem.W.findIn K (.ref C71) "__setattr__" = some (some (.builtin "object.__setattr__")))
    (e78 : PySem.W.findIn K (.ref C71) "__getattribute__" = some (some (.builtin "BaseException.__getattribute__")))
    (e79 : PySem.W.findIn K (.ref C71) "__getattr__" = some none)
    (e80 : PySem.W.findIn K (.ref C71) "__init__" = some (some (.ref f73)))
    (e81 : PySem.W.typeIn K (.ref f73) = some (.type "function"))
    (e82 : PySem.W.keepIn K (.ref C71) = true)
    (e83 : PySem.W.subIn K (.ref C71) (.type "BaseException") = some true)
    (e84 : PySem.W.subIn K (.ref C71) (.type "ValueError") = some true)
    (e85 : PySem.W.typeIn K (.ref C71) = some (.type "type"))
    (e86 : PySem.W.hasDictIn K C71 = true)
    (e87 : PySem.W.ks_superIn K C71 C71 "__init__" = some (some (.builtin "ValueError.__init__")))
    (e88 : PySem.W.mroIn K C71 (.ref C71) = some true)
    (e89 : PySem.W.exmOne K (.ref C71) (.ref C71) = some true)
    (e90 : K.lookup f73 = some ⟨oc74, od74, .func (PySem.W.ksFn "__init__" "Present.__init__" (defArgs s_PresentU_initU) (defBody s_PresentU_initU) (defScope s_PresentU_initU) .none .none doc74 pm74 an74 (.ref cda74) ct74 cc74), osl74⟩)
    (e91 : PySem.W.codeIn K (.ref cda74) "Present.__init__" = true)
    (e92 : K.lookup cda74 = some ⟨ccl74, cdd74, .fields vs74, ccs74⟩)
    (e93 : vs74[2]? = some (.str P.main.file tf74))
    (e94 : K.lookup cc74 = some ⟨cl74, cld74, .cell (some (.ref C71)), csl74⟩)
    (e95 : PySem.W.findIn K (.ref C71) "word" = some none)
    (e96 : PySem.W.findIn K (.ref C71) "mode" = some none)
    (a98 : PySem.W.nsIn K mainGlobals "Doomed" = some (some (.ref C97)))
    (e101 : K.lookup C97 = some (excClassObj nm100 qn100 C97 N100 bs100 bm100 true sn100 sub100 ab100 col100 dd100 k0100 k1100 k2100 k3100 k5100 "ValueError.__new__"))
    (e102 : PySem.HandSPX.refsVE bm100 = true)
    (e103 : PySem.W.findIn K (.ref C97) "__setattr__" = some (some (.builtin "object.__setattr__")))
    (e104 : PySem.W.findIn K (.ref C97) "__getattribute__" = some (some (.builtin "BaseException.__getattribute__")))
    (e105 : PySem.W.findIn K (.ref C97) "__getattr__" = some none)
    (e106 : PySem.W.findIn K (.ref C97) "__init__" = some (some (.ref f99)))
    (e107 : PySem.W.typeIn K (.ref f99) = some (.type "function"))
    (e108 : PySem.W.keepIn K (.ref C97) = true)
    (e109 : PySem.W.subIn K (.ref C97) (.type "BaseException") = some true)
    (e110 : PySem.W.subIn K (.ref C97) (.type "ValueError") = some true)
    (e111 : PySem.W.typeIn K (.ref C97) = some (.type "type"))
    (e112 : PySem.W.hasDictIn K C97 = true)
    (e113 : PySem.W.ks_superIn K C97 C97 "__init__" = some (some (.builtin "ValueError.__init__")))
    (e114 : PySem.W.mroIn K C97 (.ref C97) = some true)
    (e115 : PySem.W.exmOne K (.ref C97) (.ref C97) = some true)
    (e116 : K.lookup f99 = some ⟨oc100, od100, .func (PySem.W.ksFn "__init__" "Doomed.__init__" (defArgs s_DoomedU_initU) (defBody s_DoomedU_initU) (defScope s_DoomedU_initU) .none .none doc100 pm100 an100 (.ref cda100) ct100 cc100), osl100⟩)
    (e117 : PySem.W.codeIn K (.ref cda100) "Doomed.__init__" = true)
    (e118 : K.lookup cda100 = some ⟨ccl100, cdd100, .fields vs100, ccs100⟩)
    (e119 : vs100[2]? = some (.str P.main.file tf100))
    (e120 : K.lookup cc100 = some ⟨cl100, cld100, .cell (some (.ref C97)), csl100⟩)
    (e121 : PySem.W.findIn K (.ref C97) "word" = some none)
    (e122 : PySem.W.findIn K (.ref C97) "first" = some none)
    (a124 : PySem.W.nsIn K mainGlobals "Refused" = some (some (.ref C123)))
    (e127 : K.lookup C123 = some (excClassObj nm126 qn126 C123 N126 bs126 bm126 true sn126 sub126 ab126 col126 dd126 k0126 k1126 k2126 k3126 k5126 "ValueError.__new__"))
    (e128 : PySem.HandSPX.refsVE bm126 = true)
    (e129 : PySem.W.findIn K (.ref C123) "__setattr__" = some (some (.builtin "object.__setattr__")))
    (e130 : PySem.W.findIn K (.ref C123) "__getattribute__" = some (some (.builtin "BaseException.__getattribute__")))
    (e131 : PySem.W.findIn K (.ref C123) "__getattr__" = some none)
    (e132 : PySem.W.findIn K (.ref C123) "__init__" = some (some (.ref f125)))
    (e133 : PySem.W.typeIn K (.ref f125) = some (.type "function"))
    (e134 : PySem.W.keepIn K (.ref C123) = true)
    (e135 : PySem.W.subIn K (.ref C123) (.type "BaseException") = some true)
    (e136 : PySem.W.subIn K (.ref C123) (.type "ValueError") = some true)
    (e137 : PySem.W.typeIn K (.ref C123) = some (.type "type"))
    (e138 : PySem.W.hasDictIn K C123 = true)
    (e139 : PySem.W.ks_superIn K C123 C123 "__init__" = some (some (.builtin "ValueError.__init__")))
    (e140 : PySem.W.mroIn K C123 (.ref C123) = some true)
    (e141 : PySem.W.exmOne K (.ref C123) (.ref C123) = some true)
    (e142 : K.lookup f125 = some ⟨oc126, od126, .func (PySem.W.ksFn "__init__" "Refused.__init__" (defArgs s_RefusedU_initU) (defBody s_RefusedU_initU) (defScope s_RefusedU_initU) .none .none doc126 pm126 an126 (.ref cda126) ct126 cc126), osl126⟩)
    (e143 : PySem.W.codeIn K (.ref cda126) "Refused.__init__" = true)
    (e144 : K.lookup cda126 = some ⟨ccl126, cdd126, .fields vs126, ccs126⟩)
    (e145 : vs126[2]? = some (.str P.main.file tf126))
    (e146 : K.lookup cc126 = some ⟨cl126, cld126, .cell (some (.ref C123)), csl126⟩)
    (e147 : PySem.W.findIn K (.ref C123) "word" = some none)
    (a149 : PySem.W.nsIn K mainGlobals "NoBlock" = some (some (.ref C148)))
    (e152 : K.lookup C148 = some (excClassObj nm151 qn151 C148 N151 bs151 bm151 true sn151 sub151 ab151 col151 dd151 k0151 k1151 k2151 k3151 k5151 "ValueError.__new__"))
    (e153 : PySem.HandSPX.refsVE bm151 = true)
    (e154 : PySem.W.findIn K (.ref C148) "__setattr__" = some (some (.builtin "object.__setattr__")))
    (e155 : PySem.W.findIn K (.ref C148) "__getattribute__" = some (some (.builtin "BaseException.__getattribute__")))
    (e156 : PySem.W.findIn K (.ref C148) "__getattr__" = some none)
    (e157 : PySem.W.findIn K (.ref C148) "__init__" = some (some (.ref f150)))
    (e158 : PySem.W.typeIn K (.ref f150) = some (.type "function"))
    (e159 : PySem.W.keepIn K (.ref C148) = true)
    (e160 : PySem.W.subIn K (.ref C148) (.type "BaseException") = some true)
    (e161 : PySem.W.subIn K (.ref C148) (.type "ValueError") = some true)
    (e162 : PySem.W.typeIn K (.ref C148) = some (.type "type"))
    (e163 : PySem.W.hasDictIn K C148 = true)
    (e164 : PySem.W.ks_superIn K C148 C148 "__init__" = some (some (.builtin "ValueError.__init__")))
    (e165 : PySem.W.mroIn K C148 (.ref C148) = some true)
    (e166 : PySem.W.exmOne K (.ref C148) (.ref C148) = some true)
    (e167 : K.lookup f150 = some ⟨oc151, od151, .func (PySem.W.ksFn "__init__" "NoBlock.__init__" (defArgs s_NoBlockU_initU) (defBody s_NoBlockU_initU) (defScope s_NoBlockU_initU) .none .none doc151 pm151 an151 (.ref cda151) ct151 cc151), osl151⟩)
    (e168 : PySem.W.codeIn K (.ref cda151) "NoBlock.__init__" = true)
    (e169 : K.lookup cda151 = some ⟨ccl151, cdd151, .fields vs151, ccs151⟩)
    (e170 : vs151[2]? = some (.str P.main.file tf151))
    (e171 : K.lookup cc151 = some ⟨cl151, cld151, .cell (some (.ref C148)), csl151⟩)
    (a173 : PySem.W.nsIn K mainGlobals "Waits" = some (some (.ref C172)))
    (e176 : K.lookup C172 = some (excClassObj nm175 qn175 C172 N175 bs175 bm175 true sn175 sub175 ab175 col175 dd175 k0175 k1175 k2175 k3175 k5175 "ValueError.__new__"))
    (e177 : PySem.HandSPX.refsVE bm175 = true)
    (e178 : PySem.W.findIn K (.ref C172) "__setattr__" = some (some (.builtin "object.__setattr__")))
    (e179 : PySem.W.findIn K (.ref C172) "__getattribute__" = some (some (.builtin "BaseException.__getattribute__")))
    (e180 : PySem.W.findIn K (.ref C172) "__getattr__" = some none)
    (e181 : PySem.W.findIn K (.ref C172) "__init__" = some (some (.ref f174)))
    (e182 : PySem.W.typeIn K (.ref f174) = some (.type "function"))
    (e183 : PySem.W.keepIn K (.ref C172) = true)
    (e184 : PySem.W.subIn K (.ref C172) (.type "BaseException") = some true)
    (e185 : PySem.W.subIn K (.ref C172) (.type "ValueError") = some true)
    (e186 : PySem.W.typeIn K (.ref C172) = some (.type "type"))
    (e187 : PySem.W.hasDictIn K C172 = true)
    (e188 : PySem.W.ks_superIn K C172 C172 "__init__" = some (some (.builtin "ValueError.__init__")))
    (e189 : PySem.W.mroIn K C172 (.ref C172) = some true)
    (e190 : PySem.W.exmOne K (.ref C172) (.ref C172) = some true)
    (e191 : K.lookup f174 = some ⟨oc175, od175, .func (PySem.W.ksFn "__init__" "Waits.__init__" (defArgs s_WaitsU_initU) (defBody s_WaitsU_initU) (defScope s_WaitsU_initU) .none .none doc175 pm175 an175 (.ref cda175) ct175 cc175), osl175⟩)
    (e192 : PySem.W.codeIn K (.ref cda175) "Waits.__init__" = true)
    (e193 : K.lookup cda175 = some ⟨ccl175, cdd175, .fields vs175, ccs175⟩)
    (e194 : vs175[2]? = some (.str P.main.file tf175))
    (e195 : K.lookup cc175 = some ⟨cl175, cld175, .cell (some (.ref C172)), csl175⟩)
    (e196 : PySem.W.findIn K (.ref C172) "word" = some none)
    (e197 : PySem.W.findIn K (.ref C172) "record" = some none)
    (a199 : PySem.W.nsIn K mainGlobals "NoRecord" = some (some (.ref C198)))
    (e202 : K.lookup C198 = some (excClassObj nm201 qn201 C198 N201 bs201 bm201 true sn201 sub201 ab201 col201 dd201 k0201 k1201 k2201 k3201 k5201 "ValueError.__new__"))
    (e203 : PySem.HandSPX.refsVE bm201 = true)
    (e204 : PySem.W.findIn K (.ref C198) "__setattr__" = some (some (.builtin "object.__setattr__")))
    (e205 : PySem.W.findIn K (.ref C198) "__getattribute__" = some (some (.builtin "BaseException.__getattribute__")))
    (e206 : PySem.W.findIn K (.ref C198) "__getattr__" = some none)
    (e207 : PySem.W.findIn K (.ref C198) "__init__" = some (some (.ref f200)))
    (e208 : PySem.W.typeIn K (.ref f200) = some (.type "function"))
    (e209 : PySem.W.keepIn K (.ref C198) = true)
    (e210 : PySem.W.subIn K (.ref C198) (.type "BaseException") = some true)
    (e211 : PySem.W.subIn K (.ref C198) (.type "ValueError") = some true)
    (e212 : PySem.W.typeIn K (.ref C198) = some (.type "type"))
    (e213 : PySem.W.hasDictIn K C198 = true)
    (e214 : PySem.W.ks_superIn K C198 C198 "__init__" = some (some (.builtin "ValueError.__init__")))
    (e215 : PySem.W.mroIn K C198 (.ref C198) = some true)
    (e216 : PySem.W.exmOne K (.ref C198) (.ref C198) = some true)
    (e217 : K.lookup f200 = some ⟨oc201, od201, .func (PySem.W.ksFn "__init__" "NoRecord.__init__" (defArgs s_NoRecordU_initU) (defBody s_NoRecordU_initU) (defScope s_NoRecordU_initU) .none .none doc201 pm201 an201 (.ref cda201) ct201 cc201), osl201⟩)
    (e218 : PySem.W.codeIn K (.ref cda201) "NoRecord.__init__" = true)
    (e219 : K.lookup cda201 = some ⟨ccl201, cdd201, .fields vs201, ccs201⟩)
    (e220 : vs201[2]? = some (.str P.main.file tf201))
    (e221 : K.lookup cc201 = some ⟨cl201, cld201, .cell (some (.ref C198)), csl201⟩)
    (e222 : PySem.W.findIn K (.ref C198) "record" = some none)
    (a224 : PySem.W.nsIn K mainGlobals "BadWord" = some (some (.ref C223)))
    (e227 : K.lookup C223 = some (excClassObj nm226 qn226 C223 N226 bs226 bm226 true sn226 sub226 ab226 col226 dd226 k0226 k1226 k2226 k3226 k5226 "ValueError.__new__"))
    (e228 : PySem.HandSPX.refsVE bm226 = true)
    (e229 : PySem.W.findIn K (.ref C223) "__setattr__" = some (some (.builtin "object.__setattr__")))
    (e230 : PySem.W.findIn K (.ref C223) "__getattribute__" = some (some (.builtin "BaseException.__getattribute__")))
    (e231 : PySem.W.findIn K (.ref C223) "__getattr__" = some none)
    (e232 : PySem.W.findIn K (.ref C223) "__init__" = some (some (.ref f225)))
    (e233 : PySem.W.typeIn K (.ref f225) = some (.type "function"))
    (e234 : PySem.W.keepIn K (.ref C223) = true)
    (e235 : PySem.W.subIn K (.ref C223) (.type "BaseException") = some true)
    (e236 : PySem.W.subIn K (.ref C223) (.type "ValueError") = some true)
    (e237 : PySem.W.typeIn K (.ref C223) = some (.type "type"))
    (e238 : PySem.W.hasDictIn K C223 = true)
    (e239 : PySem.W.ks_superIn K C223 C223 "__init__" = some (some (.builtin "ValueError.__init__")))
    (e240 : PySem.W.mroIn K C223 (.ref C223) = some true)
    (e241 : PySem.W.exmOne K (.ref C223) (.ref C223) = some true)
    (e242 : K.lookup f225 = some ⟨oc226, od226, .func (PySem.W.ksFn "__init__" "BadWord.__init__" (defArgs s_BadWordU_initU) (defBody s_BadWordU_initU) (defScope s_BadWordU_initU) .none .none doc226 pm226 an226 (.ref cda226) ct226 cc226), osl226⟩)
    (e243 : PySem.W.codeIn K (.ref cda226) "BadWord.__init__" = true)
    (e244 : K.lookup cda226 = some ⟨ccl226, cdd226, .fields vs226, ccs226⟩)
    (e245 : vs226[2]? = some (.str P.main.file tf226))
    (e246 : K.lookup cc226 = some ⟨cl226, cld226, .cell (some (.ref C223)), csl226⟩)
    (e247 : PySem.W.findIn K (.ref C223) "word" = some none)
    (a249 : PySem.W.nsIn K mainGlobals "BadMode" = some (some (.ref C248)))
    (e252 : K.lookup C248 = some (excClassObj nm251 qn251 C248 N251 bs251 bm251 true sn251 sub251 ab251 col251 dd251 k0251 k1251 k2251 k3251 k5251 "ValueError.__new__"))
    (e253 : PySem.HandSPX.refsVE bm251 = true)
    (e254 : PySem.W.findIn K (.ref C248) "__setattr__" = some (some (.builtin "object.__setattr__")))
    (e255 : PySem.W.findIn K (.ref C248) "__getattribute__" = some (some (.builtin "BaseException.__getattribute__")))
    (e256 : PySem.W.findIn K (.ref C248) "__getattr__" = some none)
    (e257 : PySem.W.findIn K (.ref C248) "__init__" = some (some (.ref f250)))
    (e258 : PySem.W.typeIn K (.ref f250) = some (.type "function"))
    (e259 : PySem.W.keepIn K (.ref C248) = true)
    (e260 : PySem.W.subIn K (.ref C248) (.type "BaseException") = some true)
    (e261 : PySem.W.subIn K (.ref C248) (.type "ValueError") = some true)
    (e262 : PySem.W.typeIn K (.ref C248) = some (.type "type"))
    (e263 : PySem.W.hasDictIn K C248 = true)
    (e264 : PySem.W.ks_superIn K C248 C248 "__init__" = some (some (.builtin "ValueError.__init__")))
    (e265 : PySem.W.mroIn K C248 (.ref C248) = some true)
    (e266 : PySem.W.exmOne K (.ref C248) (.ref C248) = some true)
    (e267 : K.lookup f250 = some ⟨oc251, od251, .func (PySem.W.ksFn "__init__" "BadMode.__init__" (defArgs s_BadModeU_initU) (defBody s_BadModeU_initU) (defScope s_BadModeU_initU) .none .none doc251 pm251 an251 (.ref cda251) ct251 cc251), osl251⟩)
    (e268 : PySem.W.codeIn K (.ref cda251) "BadMode.__init__" = true)
    (e269 : K.lookup cda251 = some ⟨ccl251, cdd251, .fields vs251, ccs251⟩)
    (e270 : vs251[2]? = some (.str P.main.file tf251))
    (e271 : K.lookup cc251 = some ⟨cl251, cld251, .cell (some (.ref C248)), csl251⟩)
    (e272 : PySem.W.findIn K (.ref C248) "mode" = some none)
    (z273 : PySem.W.exmOne K (.ref C71) (.ref C45) = some false)
    (z274 : PySem.W.exmOne K (.ref C97) (.ref C45) = some false)
    (z275 : PySem.W.exmOne K (.ref C97) (.ref C71) = some false)
    (z276 : PySem.W.exmOne K (.ref C123) (.ref C97) = some false)
    (z277 : PySem.W.exmOne K (.ref C172) (.ref C97) = some false)
    (a279 : PySem.W.nsIn K mainGlobals "Write" = some (some (.ref C278)))
    (q280 : PySem.W.plainGet K C278 Str.empty = true)
    (q281 : PySem.W.hasDictIn K C278 = true)
    (q282 : PySem.W.plainOver K C278 = true)
    (q283 : PySem.W.findIn K (.ref C278) "__setattr__" = some (some (.builtin "object.__setattr__")))
    (z284 : PySem.W.findIn K (.ref C278) "record" = some none)
    (z285 : PySem.W.findIn K (.ref C278) "value" = some none)
    (z286 : PySem.W.findIn K (.ref C278) "fate" = some none)
    (z287 : PySem.W.findIn K (.ref C278) "holder" = some none)
    (z288 : PySem.W.findIn K (.ref C278) "level" = some none)
    (q290 : PySem.W.makesIn K C278 = true)
    (q291 : PySem.W.findIn K (.ref C278) "__init__" = some (some (.ref f289)))
    (q292 : PySem.W.isFn K (.ref f289) = true)
    (q293 : PySem.W.keepIn K (.ref C278) = true)
    (l294 : K.lookup f289 = some ⟨oc294, od294, .func (PySem.W.fnOf "__init__" "Write.__init__" (defArgs s_WriteU_initU) (defBody s_WriteU_initU) (defScope s_WriteU_initU) .none kV294 dc294 pm294 an294 cd294 ct294), sl294⟩)
    (c294 : PySem.W.codeIn K cd294 "Write.__init__" = true)
    (k294 : PySem.W.keepIn K (.ref f289) = true)
    (a296 : PySem.W.nsIn K mainGlobals "Transaction" = some (some (.ref C295)))
    (q297 : PySem.W.plainGet K C295 Str.empty = true)
    (q298 : PySem.W.hasDictIn K C295 = true)
    (q299 : PySem.W.plainOver K C295 = true)
    (q300 : PySem.W.findIn K (.ref C295) "__setattr__" = some (some (.builtin "object.__setattr__")))
    (z301 : PySem.W.findIn K (.ref C295) "number" = some none)
    (z302 : PySem.W.findIn K (.ref C295) "reasons" = some none)
    (q304 : PySem.W.makesIn K C295 = true)
    (q305 : PySem.W.findIn K (.ref C295) "__init__" = some (some (.ref f303)))
    (q306 : PySem.W.isFn K (.ref f303) = true)
    (q307 : PySem.W.keepIn K (.ref C295) = true)
    (l308 : K.lookup f303 = some ⟨oc308, od308, .func (PySem.W.fnOf "__init__" "Transaction.__init__" (defArgs s_TransactionU_initU) (defBody s_TransactionU_initU) (defScope s_TransactionU_initU) .none kV308 dc308 pm308 an308 cd308 ct308), sl308⟩)
    (c308 : PySem.W.codeIn K cd308 "Transaction.__init__" = true)
    (k308 : PySem.W.keepIn K (.ref f303) = true)
    (a310 : PySem.W.nsIn K mainGlobals "Database" = some (some (.ref C309)))
    (q311 : PySem.W.plainGet K C309 Str.empty = true)
    (q312 : PySem.W.hasDictIn K C309 = true)
    (q313 : PySem.W.plainOver K C309 = true)
    (q314 : PySem.W.findIn K (.ref C309) "__setattr__" = some (some (.builtin "object.__setattr__")))
    (z315 : PySem.W.findIn K (.ref C309) "rows" = some none)
    (z316 : PySem.W.findIn K (.ref C309) "stack" = some none)
    (z317 : PySem.W.findIn K (.ref C309) "entered" = some none)
    (z318 : PySem.W.findIn K (.ref C309) "floor" = some none)
    (z319 : PySem.W.findIn K (.ref C309) "opened" = some none)
    (q321 : PySem.W.makesIn K C309 = true)
    (q322 : PySem.W.findIn K (.ref C309) "__init__" = some (some (.ref f320)))
    (q323 : PySem.W.isFn K (.ref f320) = true)
    (q324 : PySem.W.keepIn K (.ref C309) = true)
    (l325 : K.lookup f320 = some ⟨oc325, od325, .func (PySem.W.fnOf "__init__" "Database.__init__" (defArgs s_DatabaseU_initU) (defBody s_DatabaseU_initU) (defScope s_DatabaseU_initU) .none kV325 dc325 pm325 an325 cd325 ct325), sl325⟩)
    (c325 : PySem.W.codeIn K cd325 "Database.__init__" = true)
    (k325 : PySem.W.keepIn K (.ref f320) = true)
    (q327 : PySem.W.findIn K (.ref C309) "begin" = some (some (.ref f326)))
    (q328 : PySem.W.isFn K (.ref f326) = true)
    (l329 : K.lookup f326 = some ⟨oc329, od329, .func (PySem.W.fnOf "begin" "Database.begin" (defArgs s_Database_begin) (defBody s_Database_begin) (defScope s_Database_begin) .none kV329 dc329 pm329 an329 cd329 ct329), sl329⟩)
    (c329 : PySem.W.codeIn K cd329 "Database.begin" = true)
    (k329 : PySem.W.keepIn K (.ref f326) = true)
    (q331 : PySem.W.findIn K (.ref C309) "enter_alone" = some (some (.ref f330)))
    (q332 : PySem.W.isFn K (.ref f330) = true)
    (l333 : K.lookup f330 = some ⟨oc333, od333, .func (PySem.W.fnOf "enter_alone" "Database.enter_alone" (defArgs s_Database_enter_alone) (defBody s_Database_enter_alone) (defScope s_Database_enter_alone) .none kV333 dc333 pm333 an333 cd333 ct333), sl333⟩)
    (c333 : PySem.W.codeIn K cd333 "Database.enter_alone" = true)
    (k333 : PySem.W.keepIn K (.ref f330) = true)
    (q335 : PySem.W.findIn K (.ref C309) "enter_inside" = some (some (.ref f334)))
    (q336 : PySem.W.isFn K (.ref f334) = true)
    (l337 : K.lookup f334 = some ⟨oc337, od337, .func (PySem.W.fnOf "enter_inside" "Database.enter_inside" (defArgs s_Database_enter_inside) (defBody s_Database_enter_inside) (defScope s_Database_enter_inside) .none kV337 dc337 pm337 an337 cd337 ct337), sl337⟩)
    (c337 : PySem.W.codeIn K cd337 "Database.enter_inside" = true)
    (k337 : PySem.W.keepIn K (.ref f334) = true)
    (q339 : PySem.W.findIn K (.ref C309) "enter" = some (some (.ref f338)))
    (q340 : PySem.W.isFn K (.ref f338) = true)
    (l341 : K.lookup f338 = some ⟨oc341, od341, .func (PySem.W.fnOf "enter" "Database.enter" (defArgs s_Database_enter) (defBody s_Database_enter) (defScope s_Database_enter) .none kV341 dc341 pm341 an341 cd341 ct341), sl341⟩)
    (c341 : PySem.W.codeIn K cd341 "Database.enter" = true)
    (k341 : PySem.W.keepIn K (.ref f338) = true)
    (q343 : PySem.W.findIn K (.ref C309) "doom" = some (some (.ref f342)))
    (q344 : PySem.W.isFn K (.ref f342) = true)
    (l345 : K.lookup f342 = some ⟨oc345, od345, .func (PySem.W.fnOf "doom" "Database.doom" (defArgs s_Database_doom) (defBody s_Database_doom) (defScope s_Database_doom) (.ref T346) kV345 dc345 pm345 an345 cd345 ct345), sl345⟩)
    (c345 : PySem.W.codeIn K cd345 "Database.doom" = true)
    (k345 : PySem.W.keepIn K (.ref f342) = true)
    (lT352 : K.lookup T346 = some ⟨oc347, od348, .seq #[.str "doom" t351] on349, os350⟩)
    (q354 : PySem.W.findIn K (.ref C309) "end_level" = some (some (.ref f353)))
    (q355 : PySem.W.isFn K (.ref f353) = true)
    (l356 : K.lookup f353 = some ⟨oc356, od356, .func (PySem.W.fnOf "end_level" "Database.end_level" (defArgs s_Database_end_level) (defBody s_Database_end_level) (defScope s_Database_end_level) .none kV356 dc356 pm356 an356 cd356 ct356), sl356⟩)
    (c356 : PySem.W.codeIn K cd356 "Database.end_level" = true)
    (k356 : PySem.W.keepIn K (.ref f353) = true)
    (q358 : PySem.W.findIn K (.ref C309) "end_transaction" = some (some (.ref f357)))
    (q359 : PySem.W.isFn K (.ref f357) = true)
    (l360 : K.lookup f357 = some ⟨oc360, od360, .func (PySem.W.fnOf "end_transaction" "Database.end_transaction" (defArgs s_Database_end_transaction) (defBody s_Database_end_transaction) (defScope s_Database_end_transaction) .none kV360 dc360 pm360 an360 cd360 ct360), sl360⟩)
    (c360 : PySem.W.codeIn K cd360 "Database.end_transaction" = true)
    (k360 : PySem.W.keepIn K (.ref f357) = true)
    (q362 : PySem.W.findIn K (.ref C309) "leave" = some (some (.ref f361)))
    (q363 : PySem.W.isFn K (.ref f361) = true)
    (l364 : K.lookup f361 = some ⟨oc364, od364, .func (PySem.W.fnOf "leave" "Database.leave" (defArgs s_Database_leave) (defBody s_Database_leave) (defScope s_Database_leave) (.ref T365) (.ref D372) dc364 pm364 an364 cd364 ct364), sl364⟩)
    (c364 : PySem.W.codeIn K cd364 "Database.leave" = true)
    (k364 : PySem.W.keepIn K (.ref f361) = true)
    (lT371 : K.lookup T365 = some ⟨oc366, od367, .seq #[.none] on368, os369⟩)
    (z374 : PySem.W.nsIn K D372 "commits" = some (some (.bool true)))
    (q376 : PySem.W.findIn K (.ref C309) "held_by" = some (some (.ref f375)))
    (q377 : PySem.W.isFn K (.ref f375) = true)
    (l378 : K.lookup f375 = some ⟨oc378, od378, .func (PySem.W.fnOf "held_by" "Database.held_by" (defArgs s_Database_held_by) (defBody s_Database_held_by) (defScope s_Database_held_by) .none kV378 dc378 pm378 an378 cd378 ct378), sl378⟩)
    (c378 : PySem.W.codeIn K cd378 "Database.held_by" = true)
    (k378 : PySem.W.keepIn K (.ref f375) = true)
    (q380 : PySem.W.findIn K (.ref C309) "held_records" = some (some (.ref f379)))
    (q381 : PySem.W.isFn K (.ref f379) = true)
    (l382 : K.lookup f379 = some ⟨oc382, od382, .func (PySem.W.fnOf "held_records" "Database.held_records" (defArgs s_Database_held_records) (defBody s_Database_held_records) (defScope s_Database_held_records) .none kV382 dc382 pm382 an382 cd382 ct382), sl382⟩)
    (c382 : PySem.W.codeIn K cd382 "Database.held_records" = true)
    (k382 : PySem.W.keepIn K (.ref f379) = true)
    (q384 : PySem.W.findIn K (.ref C309) "outer_records" = some (some (.ref f383)))
    (q385 : PySem.W.isFn K (.ref f383) = true)
    (l386 : K.lookup f383 = some ⟨oc386, od386, .func (PySem.W.fnOf "outer_records" "Database.outer_records" (defArgs s_Database_outer_records) (defBody s_Database_outer_records) (defScope s_Database_outer_records) .none kV386 dc386 pm386 an386 cd386 ct386), sl386⟩)
    (c386 : PySem.W.codeIn K cd386 "Database.outer_records" = true)
    (k386 : PySem.W.keepIn K (.ref f383) = true)
    (q388 : PySem.W.findIn K (.ref C309) "would_wait" = some (some (.ref f387)))
    (q389 : PySem.W.isFn K (.ref f387) = true)
    (l390 : K.lookup f387 = some ⟨oc390, od390, .func (PySem.W.fnOf "would_wait" "Database.would_wait" (defArgs s_Database_would_wait) (defBody s_Database_would_wait) (defScope s_Database_would_wait) .none kV390 dc390 pm390 an390 cd390 ct390), sl390⟩)
    (c390 : PySem.W.codeIn K cd390 "Database.would_wait" = true)
    (k390 : PySem.W.keepIn K (.ref f387) = true)
    (q392 : PySem.W.findIn K (.ref C309) "write" = some (some (.ref f391)))
    (q393 : PySem.W.isFn K (.ref f391) = true)
    (l394 : K.lookup f391 = some ⟨oc394, od394, .func (PySem.W.fnOf "write" "Database.write" (defArgs s_Database_write) (defBody s_Database_write) (defScope s_Database_write) .none kV394 dc394 pm394 an394 cd394 ct394), sl394⟩)
    (c394 : PySem.W.codeIn K cd394 "Database.write" = true)
    (k394 : PySem.W.keepIn K (.ref f391) = true)
    (q396 : PySem.W.findIn K (.ref C309) "__setitem__" = some (some (.ref f395)))
    (q397 : PySem.W.isFn K (.ref f395) = true)
    (l398 : K.lookup f395 = some ⟨oc398, od398, .func (PySem.W.fnOf "__setitem__" "Database.__setitem__" (defArgs s_DatabaseU_setitemU) (defBody s_DatabaseU_setitemU) (defScope s_DatabaseU_setitemU) .none kV398 dc398 pm398 an398 cd398 ct398), sl398⟩)
    (c398 : PySem.W.codeIn K cd398 "Database.__setitem__" = true)
    (k398 : PySem.W.keepIn K (.ref f395) = true)
    (z399 : PySem.W.noSeq K C309 = true)
    (a401 : PySem.W.nsIn K mainGlobals "_law_pool" = some (some (.ref f400)))
    (l402 : K.lookup f400 = some ⟨oc402, od402, .func (PySem.W.fnOf "_law_pool" "_law_pool" (defArgs s_law_pool) (defBody s_law_pool) (defScope s_law_pool) .none kV402 dc402 pm402 an402 cd402 ct402), sl402⟩)
    (c402 : PySem.W.codeIn K cd402 "_law_pool" = true)
    (k402 : PySem.W.keepIn K (.ref f400) = true)
    (a404 : PySem.W.nsIn K mainGlobals "_law_draw" = some (some (.ref f403)))
    (l405 : K.lookup f403 = some ⟨oc405, od405, .func (PySem.W.fnOf "_law_draw" "_law_draw" (defArgs s_law_draw) (defBody s_law_draw) (defScope s_law_draw) .none kV405 dc405 pm405 an405 cd405 ct405), sl405⟩)
    (c405 : PySem.W.codeIn K cd405 "_law_draw" = true)
    (k405 : PySem.W.keepIn K (.ref f403) = true)
    (a407 : PySem.W.nsIn K mainGlobals "_law_word" = some (some (.ref f406)))
    (l408 : K.lookup f406 = some ⟨oc408, od408, .func (PySem.W.fnOf "_law_word" "_law_word" (defArgs s_law_word) (defBody s_law_word) (defScope s_law_word) .none kV408 dc408 pm408 an408 cd408 ct408), sl408⟩)
    (c408 : PySem.W.codeIn K cd408 "_law_word" = true)
    (k408 : PySem.W.keepIn K (.ref f406) = true)
    (a410 : PySem.W.nsIn K mainGlobals "_law_records" = some (some (.ref f409)))
    (l411 : K.lookup f409 = some ⟨oc411, od411, .func (PySem.W.fnOf "_law_records" "_law_records" (defArgs s_law_records) (defBody s_law_records) (defScope s_law_records) .none kV411 dc411 pm411 an411 cd411 ct411), sl411⟩)
    (c411 : PySem.W.codeIn K cd411 "_law_records" = true)
    (k411 : PySem.W.keepIn K (.ref f409) = true)
    (a413 : PySem.W.nsIn K mainGlobals "_law_outer" = some (some (.ref f412)))
    (l414 : K.lookup f412 = some ⟨oc414, od414, .func (PySem.W.fnOf "_law_outer" "_law_outer" (defArgs s_law_outer) (defBody s_law_outer) (defScope s_law_outer) .none kV414 dc414 pm414 an414 cd414 ct414), sl414⟩)
    (c414 : PySem.W.codeIn K cd414 "_law_outer" = true)
    (k414 : PySem.W.keepIn K (.ref f412) = true)
    (a416 : PySem.W.nsIn K mainGlobals "_law_enter" = some (some (.ref f415)))
    (l417 : K.lookup f415 = some ⟨oc417, od417, .func (PySem.W.fnOf "_law_enter" "_law_enter" (defArgs s_law_enter) (defBody s_law_enter) (defScope s_law_enter) .none kV417 dc417 pm417 an417 cd417 ct417), sl417⟩)
    (c417 : PySem.W.codeIn K cd417 "_law_enter" = true)
    (k417 : PySem.W.keepIn K (.ref f415) = true)
    (a419 : PySem.W.nsIn K mainGlobals "_law_leave" = some (some (.ref f418)))
    (l420 : K.lookup f418 = some ⟨oc420, od420, .func (PySem.W.fnOf "_law_leave" "_law_leave" (defArgs s_law_leave) (defBody s_law_leave) (defScope s_law_leave) .none kV420 dc420 pm420 an420 cd420 ct420), sl420⟩)
    (c420 : PySem.W.codeIn K cd420 "_law_leave" = true)
    (k420 : PySem.W.keepIn K (.ref f418) = true)
    (a422 : PySem.W.nsIn K mainGlobals "_law_write" = some (some (.ref f421)))
    (l423 : K.lookup f421 = some ⟨oc423, od423, .func (PySem.W.fnOf "_law_write" "_law_write" (defArgs s_law_write) (defBody s_law_write) (defScope s_law_write) .none kV423 dc423 pm423 an423 cd423 ct423), sl423⟩)
    (c423 : PySem.W.codeIn K cd423 "_law_write" = true)
    (k423 : PySem.W.keepIn K (.ref f421) = true)
    (a425 : PySem.W.nsIn K mainGlobals "_law_step" = some (some (.ref f424)))
    (l426 : K.lookup f424 = some ⟨oc426, od426, .func (PySem.W.fnOf "_law_step" "_law_step" (defArgs s_law_step) (defBody s_law_step) (defScope s_law_step) .none kV426 dc426 pm426 an426 cd426 ct426), sl426⟩)
    (c426 : PySem.W.codeIn K cd426 "_law_step" = true)
    (k426 : PySem.W.keepIn K (.ref f424) = true)
    (l427 : K.lookup fa = some ⟨oc427, od427, .func (PySem.W.fnOf "law" "law" (defArgs s_law) (defBody s_law) (defScope s_law) .none kV427 dc427 pm427 an427 cd427 ct427), sl427⟩)
    (c427 : PySem.W.codeIn K cd427 "law" = true)
    (k427 : PySem.W.keepIn K (.ref fa) = true)
    (z428 : PySem.W.nsIn K mainGlobals "isinstance" = some none)
    (z429 : PySem.W.nsIn K mainGlobals "str" = some none)
    (z430 : PySem.W.nsIn K mainGlobals "len" = some none)
    (z431 : PySem.W.nsIn K mainGlobals "super" = some none)
    (z432 : PySem.W.nsIn K mainGlobals "sorted" = some none)
    (z433 : PySem.W.nsIn K mainGlobals "abs" = some none)
    (z434 : PySem.W.nsIn K mainGlobals "int" = some none)
    (z435 : PySem.W.nsIn K mainGlobals "range" = some none)
    (z436 : PySem.W.nsIn K mainGlobals "set" = some none)
    (z437 : PySem.W.nsIn K mainGlobals "max" = some none)
    (z438 : PySem.W.nsIn K mainGlobals "min" = some none)
    (z439 : PySem.W.nsIn K mainGlobals "list" = some none)
    : ∃ fd : FuncData, (∀ (s : Shared) (v : Value), BindsTo s fd ⟨[v], []⟩ [("_law_script", v)]) ∧ ∀ base : Heap, K.In base → base.Ns mainGlobals mg → FnOk P w K mg base CX0 9 fa fd ["_law_script"] (spLaw K) := by
  have F40 := fun_mk (st := s_Mode_is_mode) l40 c40 k40
  have b40 := F40.binds (ps := ["thing"]) fun _ _ _ _ _ _ us hl => match us, hl with | [_], _ => rfl
  have F43 := fun_mk (st := s_is_word) l43 c43 k43
  have b43 := F43.binds (ps := ["thing"]) fun _ _ _ _ _ _ us hl => match us, hl with | [_], _ => rfl
  have F294 := fun_mk (st := s_WriteU_initU) l294 c294 k294
  have b294 := F294.binds (ps := ["self", "record", "value", "fate", "holder", "level"]) fun _ _ _ _ _ _ us hl => match us, hl with | [_, _, _, _, _, _], _ => rfl
  have F308 := fun_mk (st := s_TransactionU_initU) l308 c308 k308
  have b308 := F308.binds (ps := ["self", "number"]) fun _ _ _ _ _ _ us hl => match us, hl with | [_, _], _ => rfl
  have F325 := fun_mk (st := s_DatabaseU_initU) l325 c325 k325
  have b325 := F325.binds (ps := ["self"]) fun _ _ _ _ _ _ us hl => match us, hl with | [_], _ => rfl
  have F329 := fun_mk (st := s_Database_begin) l329 c329 k329
  have b329 := F329.binds (ps := ["self"]) fun _ _ _ _ _ _ us hl => match us, hl with | [_], _ => rfl
  have F333 := fun_mk (st := s_Database_enter_alone) l333 c333 k333
  have b333 := F333.binds (ps := ["self", "mode"]) fun _ _ _ _ _ _ us hl => match us, hl with | [_, _], _ => rfl
  have F337 := fun_mk (st := s_Database_enter_inside) l337 c337 k337
  have b337 := F337.binds (ps := ["self", "mode", "present"]) fun _ _ _ _ _ _ us hl => match us, hl with | [_, _, _], _ => rfl
  have F341 := fun_mk (st := s_Database_enter) l341 c341 k341
  have b341 := F341.binds (ps := ["self", "mode"]) fun _ _ _ _ _ _ us hl => match us, hl with | [_, _], _ => rfl
  have F345 : FunD K "doom" "Database.doom" (defArgs s_Database_doom) (defBody s_Database_doom) (defScope s_Database_doom) [.str "doom"] []  f342 (PySem.W.fnOf "doom" "Database.doom" (defArgs s_Database_doom) (defBody s_Database_doom) (defScope s_Database_doom) (.ref T346) kV345 dc345 pm345 an345 cd345 ct345) := ⟨⟨_, _, _, _, _, _, _, _, _, _, rfl, l345, c345, .inr ⟨by decide, _, _, _, _, rfl, lT352, rfl, (.cons ⟨_, rfl⟩ .nil)⟩, .inl rfl⟩, k345⟩
  have F356 := fun_mk (st := s_Database_end_level) l356 c356 k356
  have b356 := F356.binds (ps := ["self", "error"]) fun _ _ _ _ _ _ us hl => match us, hl with | [_, _], _ => rfl
  have F360 := fun_mk (st := s_Database_end_transaction) l360 c360 k360
  have b360 := F360.binds (ps := ["self", "error", "commits"]) fun _ _ _ _ _ _ us hl => match us, hl with | [_, _, _], _ => rfl
  have F364 : FunD K "leave" "Database.leave" (defArgs s_Database_leave) (defBody s_Database_leave) (defScope s_Database_leave) [.non] [("commits", .bl true)]  f361 (PySem.W.fnOf "leave" "Database.leave" (defArgs s_Database_leave) (defBody s_Database_leave) (defScope s_Database_leave) (.ref T365) (.ref D372) dc364 pm364 an364 cd364 ct364) := ⟨⟨_, _, _, _, _, _, _, _, _, _, rfl, l364, c364, .inr ⟨by decide, _, _, _, _, rfl, lT371, rfl, (.cons rfl .nil)⟩, .inr ⟨_, rfl, fun q hq => by
      rcases List.mem_cons.mp hq with rfl | hq
      · exact ⟨_, z374, rfl⟩
      · exact absurd hq (by simp)⟩⟩, k364⟩
  have F378 := fun_mk (st := s_Database_held_by) l378 c378 k378
  have b378 := F378.binds (ps := ["self", "numbers"]) fun _ _ _ _ _ _ us hl => match us, hl with | [_, _], _ => rfl
  have F382 := fun_mk (st := s_Database_held_records) l382 c382 k382
  have b382 := F382.binds (ps := ["self"]) fun _ _ _ _ _ _ us hl => match us, hl with | [_], _ => rfl
  have F386 := fun_mk (st := s_Database_outer_records) l386 c386 k386
  have b386 := F386.binds (ps := ["self"]) fun _ _ _ _ _ _ us hl => match us, hl with | [_], _ => rfl
  have F390 := fun_mk (st := s_Database_would_wait) l390 c390 k390
  have b390 := F390.binds (ps := ["self", "record"]) fun _ _ _ _ _ _ us hl => match us, hl with | [_, _], _ => rfl
  have F394 := fun_mk (st := s_Database_write) l394 c394 k394
  have b394 := F394.binds (ps := ["self", "record", "value"]) fun _ _ _ _ _ _ us hl => match us, hl with | [_, _, _], _ => rfl
  have F398 := fun_mk (st := s_DatabaseU_setitemU) l398 c398 k398
  have b398 := F398.binds (ps := ["self", "record", "value"]) fun _ _ _ _ _ _ us hl => match us, hl with | [_, _, _], _ => rfl
  have F402 := fun_mk (st := s_law_pool) l402 c402 k402
  have b402 := F402.binds (ps := ["_law_script", "_law_at"]) fun _ _ _ _ _ _ us hl => match us, hl with | [_, _], _ => rfl
  have F405 := fun_mk (st := s_law_draw) l405 c405 k405
  have b405 := F405.binds (ps := ["_law_pool_here", "_law_many"]) fun _ _ _ _ _ _ us hl => match us, hl with | [_, _], _ => rfl
  have F408 := fun_mk (st := s_law_word) l408 c408 k408
  have b408 := F408.binds (ps := ["_law_pool_here"]) fun _ _ _ _ _ _ us hl => match us, hl with | [_], _ => rfl
  have F411 := fun_mk (st := s_law_records) l411 c411 k411
  have b411 := F411.binds (ps := ["_law_levels"]) fun _ _ _ _ _ _ us hl => match us, hl with | [_], _ => rfl
  have F414 := fun_mk (st := s_law_outer) l414 c414 k414
  have b414 := F414.binds (ps := ["_law_stack"]) fun _ _ _ _ _ _ us hl => match us, hl with | [_], _ => rfl
  have F417 := fun_mk (st := s_law_enter) l417 c417 k417
  have b417 := F417.binds (ps := ["_law_db", "_law_stack", "_law_sorts", "_law_mode"]) fun _ _ _ _ _ _ us hl => match us, hl with | [_, _, _, _], _ => rfl
  have F420 := fun_mk (st := s_law_leave) l420 c420 k420
  have b420 := F420.binds (ps := ["_law_db", "_law_stack", "_law_sorts", "_law_error", "_law_goes"]) fun _ _ _ _ _ _ us hl => match us, hl with | [_, _, _, _, _], _ => rfl
  have F423 := fun_mk (st := s_law_write) l423 c423 k423
  have b423 := F423.binds (ps := ["_law_db", "_law_stack", "_law_record", "_law_value"]) fun _ _ _ _ _ _ us hl => match us, hl with | [_, _, _, _], _ => rfl
  have F426 := fun_mk (st := s_law_step) l426 c426 k426
  have b426 := F426.binds (ps := ["_law_pool_here", "_law_db", "_law_stack", "_law_sorts", "_law_words"]) fun _ _ _ _ _ _ us hl => match us, hl with | [_, _, _, _, _], _ => rfl
  have F427 := fun_mk (st := s_law) l427 c427 k427
  have b427 := F427.binds (ps := ["_law_script"]) fun _ _ _ _ _ _ us hl => match us, hl with | [_], _ => rfl
  have T : Txt K mg ⟨C1, p22, f35, p36, f41, C45, f47, C71, f73, C97, f99, C123, f125, C148, f150, C172, f174, C198, f200, C223, f225, C248, f250, C278, f289, C295, f303, C309, f320, f326, f330, f334, f338, f342, f353, f357, f361, f375, f379, f383, f387, f391, f395, f400, f403, f406, f409, f412, f415, f418, f421, f424, fa⟩ ⟨PySem.W.fnOf "is_mode" "Mode.is_mode" (defArgs s_Mode_is_mode) (defBody s_Mode_is_mode) (defScope s_Mode_is_mode) .none kV40 dc40 pm40 an40 cd40 ct40, PySem.W.fnOf "is_word" "is_word" (defArgs s_is_word) (defBody s_is_word) (defScope s_is_word) .none kV43 dc43 pm43 an43 cd43 ct43, PySem.W.fnOf "__init__" "Write.__init__" (defArgs s_WriteU_initU) (defBody s_WriteU_initU) (defScope s_WriteU_initU) .none kV294 dc294 pm294 an294 cd294 ct294, PySem.W.fnOf "__init__" "Transaction.__init__" (defArgs s_TransactionU_initU) (defBody s_TransactionU_initU) (defScope s_TransactionU_initU) .none kV308 dc308 pm308 an308 cd308 ct308, PySem.W.fnOf "__init__" "Database.__init__" (defArgs s_DatabaseU_initU) (defBody s_DatabaseU_initU) (defScope s_DatabaseU_initU) .none kV325 dc325 pm325 an325 cd325 ct325, PySem.W.fnOf "begin" "Database.begin" (defArgs s_Database_begin) (defBody s_Database_begin) (defScope s_Database_begin) .none kV329 dc329 pm329 an329 cd329 ct329, PySem.W.fnOf "enter_alone" "Database.enter_alone" (defArgs s_Database_enter_alone) (defBody s_Database_enter_alone) (defScope s_Database_enter_alone) .none kV333 dc333 pm333 an333 cd333 ct333, PySem.W.fnOf "enter_inside" "Database.enter_inside" (defArgs s_Database_enter_inside) (defBody s_Database_enter_inside) (defScope s_Database_enter_inside) .none kV337 dc337 pm337 an337 cd337 ct337, PySem.W.fnOf "enter" "Database.enter" (defArgs s_Database_enter) (defBody s_Database_enter) (defScope s_Database_enter) .none kV341 dc341 pm341 an341 cd341 ct341, PySem.W.fnOf "doom" "Database.doom" (defArgs s_Database_doom) (defBody s_Database_doom) (defScope s_Database_doom) (.ref T346) kV345 dc345 pm345 an345 cd345 ct345, PySem.W.fnOf "end_level" "Database.end_level" (defArgs s_Database_end_level) (defBody s_Database_end_level) (defScope s_Database_end_level) .none kV356 dc356 pm356 an356 cd356 ct356, PySem.W.fnOf "end_transaction" "Database.end_transaction" (defArgs s_Database_end_transaction) (defBody s_Database_end_transaction) (defScope s_Database_end_transaction) .none kV360 dc360 pm360 an360 cd360 ct360, PySem.W.fnOf "leave" "Database.leave" (defArgs s_Database_leave) (defBody s_Database_leave) (defScope s_Database_leave) (.ref T365) (.ref D372) dc364 pm364 an364 cd364 ct364, PySem.W.fnOf "held_by" "Database.held_by" (defArgs s_Database_held_by) (defBody s_Database_held_by) (defScope s_Database_held_by) .none kV378 dc378 pm378 an378 cd378 ct378, PySem.W.fnOf "held_records" "Database.held_records" (defArgs s_Database_held_records) (defBody s_Database_held_records) (defScope s_Database_held_records) .none kV382 dc382 pm382 an382 cd382 ct382, PySem.W.fnOf "outer_records" "Database.outer_records" (defArgs s_Database_outer_records) (defBody s_Database_outer_records) (defScope s_Database_outer_records) .none kV386 dc386 pm386 an386 cd386 ct386, PySem.W.fnOf "would_wait" "Database.would_wait" (defArgs s_Database_would_wait) (defBody s_Database_would_wait) (defScope s_Database_would_wait) .none kV390 dc390 pm390 an390 cd390 ct390, PySem.W.fnOf "write" "Database.write" (defArgs s_Database_write) (defBody s_Database_write) (defScope s_Database_write) .none kV394 dc394 pm394 an394 cd394 ct394, PySem.W.fnOf "__setitem__" "Database.__setitem__" (defArgs s_DatabaseU_setitemU) (defBody s_DatabaseU_setitemU) (defScope s_DatabaseU_setitemU) .none kV398 dc398 pm398 an398 cd398 ct398, PySem.W.fnOf "_law_pool" "_law_pool" (defArgs s_law_pool) (defBody s_law_pool) (defScope s_law_pool) .none kV402 dc402 pm402 an402 cd402 ct402, PySem.W.fnOf "_law_draw" "_law_draw" (defArgs s_law_draw) (defBody s_law_draw) (defScope s_law_draw) .none kV405 dc405 pm405 an405 cd405 ct405, PySem.W.fnOf "_law_word" "_law_word" (defArgs s_law_word) (defBody s_law_word) (defScope s_law_word) .none kV408 dc408 pm408 an408 cd408 ct408, PySem.W.fnOf "_law_records" "_law_records" (defArgs s_law_records) (defBody s_law_records) (defScope s_law_records) .none kV411 dc411 pm411 an411 cd411 ct411, PySem.W.fnOf "_law_outer" "_law_outer" (defArgs s_law_outer) (defBody s_law_outer) (defScope s_law_outer) .none kV414 dc414 pm414 an414 cd414 ct414, PySem.W.fnOf "_law_enter" "_law_enter" (defArgs s_law_enter) (defBody s_law_enter) (defScope s_law_enter) .none kV417 dc417 pm417 an417 cd417 ct417, PySem.W.fnOf "_law_leave" "_law_leave" (defArgs s_law_leave) (defBody s_law_leave) (defScope s_law_leave) .none kV420 dc420 pm420 an420 cd420 ct420, PySem.W.fnOf "_law_write" "_law_write" (defArgs s_law_write) (defBody s_law_write) (defScope s_law_write) .none kV423 dc423 pm423 an423 cd423 ct423, PySem.W.fnOf "_law_step" "_law_step" (defArgs s_law_step) (defBody s_law_step) (defScope s_law_step) .none kV426 dc426 pm426 an426 cd426 ct426, PySem.W.fnOf "law" "law" (defArgs s_law) (defBody s_law) (defScope s_law) .none kV427 dc427 pm427 an427 cd427 ct427⟩ := ⟨PySem.W.mg_of X G a2, ⟨r3, s4⟩, ⟨_, z5, ⟨_, rfl⟩⟩, ⟨_, z7, ⟨_, rfl⟩⟩, ⟨_, z9, ⟨_, rfl⟩⟩, ⟨_, z11, ⟨_, rfl⟩⟩, ⟨_, z13, ⟨_, rfl⟩⟩, ⟨_, z15, ⟨_, rfl⟩⟩, ⟨_, z17, ⟨_, rfl⟩⟩, ⟨_, z19, ⟨_, rfl⟩⟩, ⟨_, z21, rfl⟩, fun H => .inr ⟨_, _, _, l23, rfl, rfl, sz_le rfl, (.cons ⟨_, rfl⟩ (.cons ⟨_, rfl⟩ (.cons ⟨_, rfl⟩ (.cons ⟨_, rfl⟩ (.cons ⟨_, rfl⟩ (.cons ⟨_, rfl⟩ (.cons ⟨_, rfl⟩ (.cons ⟨_, rfl⟩ .nil))))))))⟩, ⟨_, l23, rfl⟩, F40, b40, ⟨z37, _, r38⟩, F43, b43, PySem.W.mg_of X G a42, PySem.W.mg_of X G a46, ec_Missing e49 e50 e51 e52 e53 e54 e55 e56 e57 e58 e59 e60 e61 e62 e63 z44 e64 e65 e66 e67 e68 e69 e70, PySem.W.mg_of X G a72, ec_Present e75 e76 e77 e78 e79 e80 e81 e82 e83 e84 e85 e86 e87 e88 e89 z44 e90 e91 e92 e93 e94 e95 e96, PySem.W.mg_of X G a98, ec_Doomed e101 e102 e103 e104 e105 e106 e107 e108 e109 e110 e111 e112 e113 e114 e115 z44 e116 e117 e118 e119 e120 e121 e122, PySem.W.mg_of X G a124, ec_Refused e127 e128 e129 e130 e131 e132 e133 e134 e135 e136 e137 e138 e139 e140 e141 z44 e142 e143 e144 e145 e146 e147, PySem.W.mg_of X G a149, ec_NoBlock e152 e153 e154 e155 e156 e157 e158 e159 e160 e161 e162 e163 e164 e165 e166 z44 e167 e168 e169 e170 e171 , PySem.W.mg_of X G a173, ec_Waits e176 e177 e178 e179 e180 e181 e182 e183 e184 e185 e186 e187 e188 e189 e190 z44 e191 e192 e193 e194 e195 e196 e197, PySem.W.mg_of X G a199, ec_NoRecord e202 e203 e204 e205 e206 e207 e208 e209 e210 e211 e212 e213 e214 e215 e216 z44 e217 e218 e219 e220 e221 e222, PySem.W.mg_of X G a224, ec_BadWord e227 e228 e229 e230 e231 e232 e233 e234 e235 e236 e237 e238 e239 e240 e241 z44 e242 e243 e244 e245 e246 e247, PySem.W.mg_of X G a249, ec_BadMode e252 e253 e254 e255 e256 e257 e258 e259 e260 e261 e262 e263 e264 e265 e266 z44 e267 e268 e269 e270 e271 e272, z273, z274, z275, z276, z277, PySem.W.mg_of X G a279, ⟨q280, q281, q282, q283⟩, z284, z285, z286, z287, z288, F294, b294, ⟨q290, q291, q292, q293⟩, PySem.W.mg_of X G a296, ⟨q297, q298, q299, q300⟩, z301, z302, F308, b308, ⟨q304, q305, q306, q307⟩, PySem.W.mg_of X G a310, ⟨q311, q312, q313, q314⟩, z315, z316, z317, z318, z319, F325, b325, ⟨q321, q322, q323, q324⟩, F329, b329, ⟨q327, q328, k329⟩, F333, b333, ⟨q331, q332, k333⟩, F337, b337, ⟨q335, q336, k337⟩, F341, b341, ⟨q339, q340, k341⟩, F345, ⟨q343, q344, k345⟩, F356, b356, ⟨q354, q355, k356⟩, F360, b360, ⟨q358, q359, k360⟩, F364, ⟨q362, q363, k364⟩, F378, b378, ⟨q376, q377, k378⟩, F382, b382, ⟨q380, q381, k382⟩, F386, b386, ⟨q384, q385, k386⟩, F390, b390, ⟨q388, q389, k390⟩, F394, b394, ⟨q392, q393, k394⟩, F398, b398, ⟨q396, q397, k398⟩, z399, F402, b402, PySem.W.mg_of X G a401, F405, b405, PySem.W.mg_of X G a404, F408, b408, PySem.W.mg_of X G a407, F411, b411, PySem.W.mg_of X G a410, F414, b414, PySem.W.mg_of X G a413, F417, b417, PySem.W.mg_of X G a416, F420, b420, PySem.W.mg_of X G a419, F423, b423, PySem.W.mg_of X G a422, F426, b426, PySem.W.mg_of X G a425, F427, b427, hfa, PySem.W.mg_none_of X G z428, PySem.W.mg_none_of X G z429, PySem.W.mg_none_of X G z430, PySem.W.mg_none_of X G z431, PySem.W.mg_none_of X G z432, PySem.W.mg_none_of X G z433, PySem.W.mg_none_of X G z434, PySem.W.mg_none_of X G z435, PySem.W.mg_none_of X G z436, PySem.W.mg_none_of X G z437, PySem.W.mg_none_of X G z438, PySem.W.mg_none_of X G z439⟩
  exact ⟨_, fun s v => .of_eq rfl, fun base _ _ => ok_law T⟩
theorem all_mk' {w : World} {K : PySem.W.Frag} {h : Heap} {mg : Str → Option Value} {fa f0 : Addr} (X : K.In h) (G : h.Ns mainGlobals mg) (hfa0 : mg "law" = some (.ref fa))
    {C1 : Addr}
    {t6 : Tok}
    {t8 : Tok}
    {t10 : Tok}
    {t12 : Tok}
    {t14 : Tok}
    {t16 : Tok}
    {t18 : Tok}
    {t20 : Tok}
    {t24 t25 t26 t27 t28 t29 t30 t31 : Tok} {p22 : Addr} {dd32 : Option Addr} {nn33 : Nat} {sl34 : Array (Option Value)}
    {f35 p36 : Addr} {rs39 : List Value}
    {od40 an40 : Option Addr} {sl40 : Array (Option Value)} {oc40 kV40 dc40 pm40 cd40 ct40 : Value}
    {f41 : Addr}
    {od43 an43 : Option Addr} {sl43 : Array (Option Value)} {oc43 kV43 dc43 pm43 cd43 ct43 : Value}
    {C45 : Addr}
    {f47 : Addr} {nm48 qn48 : Str} {N48 : Addr} {bs48 bm48 : List Value} {sn48 : List Str} {sub48 : List Value} {ab48 : Bool} {col48 : Option Bool} {dd48 : Option Addr} {k048 k148 k248 k348 k548 : Option Value}
    {oc48 : Value} {od48 : Option Addr} {doc48 pm48 : Value} {an48 : Option Addr} {cda48 cc48 : Addr} {ct48 : Value} {osl48 : Array (Option Value)} {ccl48 : Value} {cdd48 : Option Addr} {vs48 : Array Value} {ccs48 : Array (Option Value)} {tf48 : Tok} {cl48 : Value} {cld48 : Option Addr} {csl48 : Array (Option Value)}
    {C71 : Addr}
    {f73 : Addr} {nm74 qn74 : Str} {N74 : Addr} {bs74 bm74 : List Value} {sn74 : List Str} {sub74 : List Value} {ab74 : Bool} {col74 : Option Bool} {dd74 : Option Addr} {k074 k174 k274 k374 k574 : Option Value}
    {oc74 : Value} {od74 : Option Addr} {doc74 pm74 : Value} {an74 : Option Addr} {cda74 cc74 : Addr} {ct74 : Value} {osl74 : Array (Option Value)} {ccl74 : Value} {cdd74 : Option Addr} {vs74 : Array Value} {ccs74 : Array (Option Value)} {tf74 : Tok} {cl74 : Value} {cld74 : Option Addr} {csl74 : Array (Option Value)}
    {C97 : Addr}
    {f99 : Addr} {nm100 qn100 : Str} {N100 : Addr} {bs100 bm100 : List Value} {sn100 : List Str} {sub100 : List Value} {ab100 : Bool} {col100 : Option Bool} {dd100 : Option Addr} {k0100 k1100 k2100 k3100 k5100 : Option Value}
    {oc100 : Value} {od100 : Option Addr} {doc100 pm100 : Value} {an100 : Option Addr} {cda100 cc100 : Addr} {ct100 : Value} {osl100 : Array (Option Value)} {ccl100 : Value} {cdd100 : Option Addr} {vs100 : Array Value} {ccs100 : Array (Option Value)} {tf100 : Tok} {cl100 : Value} {cld100 : Option Addr} {csl100 : Array (Option Value)}
    {C123 : Addr}
    {f125 : Addr} {nm126 qn126 : Str} {N126 : Addr} {bs126 bm126 : List Value} {sn126 : List Str} {sub126 : List Value} {ab126 : Bool} {col126 : Option Bool} {dd126 : Option Addr} {k0126 k1126 k2126 k3126 k5126 : Option Value}
    {oc126 : Value} {od126 : Option Addr} {doc126 pm126 : Value} {an126 : Option Addr} {cda126 cc126 : Addr} {ct126 : Value} {osl126 : Array (Option Value)} {ccl126 : Value} {cdd126 : Option Addr} {vs126 : Array Value} {ccs126 : Array (Option Value)} {tf126 : Tok} {cl126 : Value} {cld126 : Option Addr} {csl126 : Array (Option Value)}
    {C148 : Addr}
    {f150 : Addr} {nm151 qn151 : Str} {N151 : Addr} {bs151 bm151 : List Value} {sn151 : List Str} {sub151 : List Value} {ab151 : Bool} {col151 : Option Bool} {dd151 : Option Addr} {k0151 k1151 k2151 k3151 k5151 : Option Value}
    {oc151 : Value} {od151 : Option Addr} {doc151 pm151 : Value} {an151 : Option Addr} {cda151 cc151 : Addr} {ct151 : Value} {osl151 : Array (Option Value)} {ccl151 : Value} {cdd151 : Option Addr} {vs151 : Array Value} {ccs151 : Array (Option Value)} {tf151 : Tok} {cl151 : Value} {cld151 : Option Addr} {csl151 : Array (Option Value)}
    {C172 : Addr}
    {f174 : Addr} {nm175 qn175 : Str} {N175 : Addr} {bs175 bm175 : List Value} {sn175 : List Str} {sub175 : List Value} {ab175 : Bool} {col175 : Option Bool} {dd175 : Option Addr} {k0175 k1175 k2175 k3175 k5175 : Option Value}
    {oc175 : Value} {od175 : Option Addr} {doc175 pm175 : Value} {an175 : Option Addr} {cda175 cc175 : Addr} {ct175 : Value} {osl175 : Array (Option Value)} {ccl175 : Value} {cdd175 : Option Addr} {vs175 : Array Value} {ccs175 : Array (Option Value)} {tf175 : Tok} {cl175 : Value} {cld175 : Option Addr} {csl175 : Array (Option Value)}
    {C198 : Addr}
    {f200 : Addr} {nm201 qn201 : Str} {N201 : Addr} {bs201 bm201 : List Value} {sn201 : List Str} {sub201 : List Value} {ab201 : Bool} {col201 : Option Bool} {dd201 : Option Addr} {k0201 k1201 k2201 k3201 k5201 : Option Value}
    {oc201 : Value} {od201 : Option Addr} {doc201 pm201 : Value} {an201 : Option Addr} {cda201 cc201 : Addr} {ct201 : Value} {osl201 : Array (Option Value)} {ccl201 : Value} {cdd201 : Option Addr} {vs201 : Array Value} {ccs201 : Array (Option Value)} {tf201 : Tok} {cl201 : Value} {cld201 : Option Addr} {csl201 : Array (Option Value)}
    {C223 : Addr}
    {f225 : Addr} {nm226 qn226 : Str} {N226 : Addr} {bs226 bm226 : List Value} {sn226 : List Str} {sub226 : List Value} {ab226 : Bool} {col226 : Option Bool} {dd226 : Option Addr} {k0226 k1226 k2226 k3226 k5226 : Option Value}
    {oc226 : Value} {od226 : Option Addr} {doc226 pm226 : Value} {an226 : Option Addr} {cda226 cc226 : Addr} {ct226 : Value} {osl226 : Array (Option Value)} {ccl226 : Value} {cdd226 : Option Addr} {vs226 : Array Value} {ccs226 : Array (Option Value)} {tf226 : Tok} {cl226 : Value} {cld226 : Option Addr} {csl226 : Array (Option Value)}
    {C248 : Addr}
    {f250 : Addr} {nm251 qn251 : Str} {N251 : Addr} {bs251 bm251 : List Value} {sn251 : List Str} {sub251 : List Value} {ab251 : Bool} {col251 : Option Bool} {dd251 : Option Addr} {k0251 k1251 k2251 k3251 k5251 : Option Value}
    {oc251 : Value} {od251 : Option Addr} {doc251 pm251 : Value} {an251 : Option Addr} {cda251 cc251 : Addr} {ct251 : Value} {osl251 : Array (Option Value)} {ccl251 : Value} {cdd251 : Option Addr} {vs251 : Array Value} {ccs251 : Array (Option Value)} {tf251 : Tok} {cl251 : Value} {cld251 : Option Addr} {csl251 : Array (Option Value)}
    {C278 : Addr}
    {f289 : Addr}
    {od294 an294 : Option Addr} {sl294 : Array (Option Value)} {oc294 kV294 dc294 pm294 cd294 ct294 : Value}
    {C295 : Addr}
    {f303 : Addr}
    {od308 an308 : Option Addr} {sl308 : Array (Option Value)} {oc308 kV308 dc308 pm308 cd308 ct308 : Value}
    {C309 : Addr}
    {f320 : Addr}
    {od325 an325 : Option Addr} {sl325 : Array (Option Value)} {oc325 kV325 dc325 pm325 cd325 ct325 : Value}
    {f326 : Addr}
    {od329 an329 : Option Addr} {sl329 : Array (Option Value)} {oc329 kV329 dc329 pm329 cd329 ct329 : Value}
    {f330 : Addr}
    {od333 an333 : Option Addr} {sl333 : Array (Option Value)} {oc333 kV333 dc333 pm333 cd333 ct333 : Value}
    {f334 : Addr}
    {od337 an337 : Option Addr} {sl337 : Array (Option Value)} {oc337 kV337 dc337 pm337 cd337 ct337 : Value}
    {f338 : Addr}
    {od341 an341 : Option Addr} {sl341 : Array (Option Value)} {oc341 kV341 dc341 pm341 cd341 ct341 : Value}
    {f342 : Addr}
    {od345 an345 : Option Addr} {sl345 : Array (Option Value)} {oc345 dc345 pm345 cd345 ct345 : Value}
    {T346 : Addr} {oc347 : Value} {od348 : Option Addr} {on349 : Nat} {os350 : Array (Option Value)}
    {t351 : Tok}
    {kV345 : Value}
    {f353 : Addr}
    {od356 an356 : Option Addr} {sl356 : Array (Option Value)} {oc356 kV356 dc356 pm356 cd356 ct356 : Value}
    {f357 : Addr}
    {od360 an360 : Option Addr} {sl360 : Array (Option Value)} {oc360 kV360 dc360 pm360 cd360 ct360 : Value}
    {f361 : Addr}
    {od364 an364 : Option Addr} {sl364 : Array (Option Value)} {oc364 dc364 pm364 cd364 ct364 : Value}
    {T365 : Addr} {oc366 : Value} {od367 : Option Addr} {on368 : Nat} {os369 : Array (Option Value)}
    {D372 : Addr}
    {f375 : Addr}
    {od378 an378 : Option Addr} {sl378 : Array (Option Value)} {oc378 kV378 dc378 pm378 cd378 ct378 : Value}
    {f379 : Addr}
    {od382 an382 : Option Addr} {sl382 : Array (Option Value)} {oc382 kV382 dc382 pm382 cd382 ct382 : Value}
    {f383 : Addr}
    {od386 an386 : Option Addr} {sl386 : Array (Option Value)} {oc386 kV386 dc386 pm386 cd386 ct386 : Value}
    {f387 : Addr}
    {od390 an390 : Option Addr} {sl390 : Array (Option Value)} {oc390 kV390 dc390 pm390 cd390 ct390 : Value}
    {f391 : Addr}
    {od394 an394 : Option Addr} {sl394 : Array (Option Value)} {oc394 kV394 dc394 pm394 cd394 ct394 : Value}
    {f395 : Addr}
    {od398 an398 : Option Addr} {sl398 : Array (Option Value)} {oc398 kV398 dc398 pm398 cd398 ct398 : Value}
    {f400 : Addr}
    {od402 an402 : Option Addr} {sl402 : Array (Option Value)} {oc402 kV402 dc402 pm402 cd402 ct402 : Value}
    {f403 : Addr}
    {od405 an405 : Option Addr} {sl405 : Array (Option Value)} {oc405 kV405 dc405 pm405 cd405 ct405 : Value}
    {f406 : Addr}
    {od408 an408 : Option Addr} {sl408 : Array (Option Value)} {oc408 kV408 dc408 pm408 cd408 ct408 : Value}
    {f409 : Addr}
    {od411 an411 : Option Addr} {sl411 : Array (Option Value)} {oc411 kV411 dc411 pm411 cd411 ct411 : Value}
    {f412 : Addr}
    {od414 an414 : Option Addr} {sl414 : Array (Option Value)} {oc414 kV414 dc414 pm414 cd414 ct414 : Value}
    {f415 : Addr}
    {od417 an417 : Option Addr} {sl417 : Array (Option Value)} {oc417 kV417 dc417 pm417 cd417 ct417 : Value}
    {f418 : Addr}
    {od420 an420 : Option Addr} {sl420 : Array (Option Value)} {oc420 kV420 dc420 pm420 cd420 ct420 : Value}
    {f421 : Addr}
    {od423 an423 : Option Addr} {sl423 : Array (Option Value)} {oc423 kV423 dc423 pm423 cd423 ct423 : Value}
    {f424 : Addr}
    {od426 an426 : Option Addr} {sl426 : Array (Option Value)} {oc426 kV426 dc426 pm426 cd426 ct426 : Value}
    {od427 an427 : Option Addr} {sl427 : Array (Option Value)} {oc427 kV427 dc427 pm427 cd427 ct427 : Value}
    (a0 : PySem.W.nsIn K mainGlobals "law" = some (some (.ref f0)))
    (a2 : PySem.W.nsIn K mainGlobals "Mode" = some (some (.ref C1)))
    (r3 : PySem.W.readsIn K C1 (.type "type") = true)
    (s4 : PySem.W.specialIn K (.ref C1) "__getattribute__" = some (some (.builtin "type.__getattribute__")))
    (z5 : PySem.W.findCls K (.ref C1) (.type "type") "JOIN" = some (.val (.str "join" t6)))
    (z7 : PySem.W.findCls K (.ref C1) (.type "type") "INNER" = some (.val (.str "inner" t8)))
    (z9 : PySem.W.findCls K (.ref C1) (.type "type") "APART" = some (.val (.str "apart" t10)))
    (z11 : PySem.W.findCls K (.ref C1) (.type "type") "MUST" = some (.val (.str "must" t12)))
    (z13 : PySem.W.findCls K (.ref C1) (.type "type") "EITHER" = some (.val (.str "either" t14)))
    (z15 : PySem.W.findCls K (.ref C1) (.type "type") "NEVER" = some (.val (.str "never" t16)))
    (z17 : PySem.W.findCls K (.ref C1) (.type "type") "OUTSIDE" = some (.val (.str "outside" t18)))
    (z19 : PySem.W.findCls K (.ref C1) (.type "type") "ALONE" = some (.val (.str "alone" t20)))
    (z21 : PySem.W.findCls K (.ref C1) (.type "type") "ALL" = some (.val (.ref p22)))
    (l23 : K.lookup p22 = some ⟨.type "tuple", dd32, .seq #[.str "join" t24, .str "inner" t25, .str "apart" t26, .str "must" t27, .str "either" t28, .str "never" t29, .str "outside" t30, .str "alone" t31] nn33, sl34⟩)
    (z37 : PySem.W.findCls K (.ref C1) (.type "type") "is_mode" = some (.get (.builtin "staticmethod.__get__") (.ref p36) .none (.ref C1)))
    (r38 : PySem.W.recIn K p36 "staticmethod" = some (.ref f35 :: rs39))
    (l40 : K.lookup f35 = some ⟨oc40, od40, .func (PySem.W.fnOf "is_mode" "Mode.is_mode" (defArgs s_Mode_is_mode) (defBody s_Mode_is_mode) (defScope s_Mode_is_mode) .none kV40 dc40 pm40 an40 cd40 ct40), sl40⟩)
    (c40 : PySem.W.codeIn K cd40 "Mode.is_mode" = true)
    (k40 : PySem.W.keepIn K (.ref f35) = true)
    (a42 : PySem.W.nsIn K mainGlobals "is_word" = some (some (.ref f41)))
    (l43 : K.lookup f41 = some ⟨oc43, od43, .func (PySem.W.fnOf "is_word" "is_word" (defArgs s_is_word) (defBody s_is_word) (defScope s_is_word) .none kV43 dc43 pm43 an43 cd43 ct43), sl43⟩)
    (c43 : PySem.W.codeIn K cd43 "is_word" = true)
    (k43 : PySem.W.keepIn K (.ref f41) = true)
    (z44 : PySem.W.nsIn K cStatics "thirdparty.any" = some none)
    (a46 : PySem.W.nsIn K mainGlobals "Missing" = some (some (.ref C45)))
    (e49 : K.lookup C45 = some (excClassObj nm48 qn48 C45 N48 bs48 bm48 true sn48 sub48 ab48 col48 dd48 k048 k148 k248 k348 k548 "ValueError.__new__"))
    (e50 : PySem.HandSPX.refsVE bm48 = true)
    (e51 : PySem.W.findIn K (.ref C45) "__setattr__" = some (some (.builtin "object.__setattr__")))
    (e52 : PySem.W.findIn K (.ref C45) "__getattribute__" = some (some (.builtin "BaseException.__getattribute__")))
    (e53 : PySem.W.findIn K (.ref C45) "__getattr__" = some none)
    (e54 : PySem.W.findIn K (.ref C45) "__init__" = some (some (.ref f47)))
    (e55 : PySem.W.typeIn K (.ref f47) = some (.type "function"))
    (e56 : PySem.W.keepIn K (.ref C45) = true)
    (e57 : PySem.W.subIn K (.ref C45) (.type "BaseException") = some true)
    (e58 : PySem.W.subIn K (.ref C45) (.type "ValueError") = some true)
    (e59 : PySem.W.typeIn K (.ref C45) = some (.type "type"))
    (e60 : PySem.W.hasDictIn K C45 = true)
    (e61 : PySem.W.ks_superIn K C45 C45 "__init__" = some (some (.builtin "ValueError.__init__")))
    (e62 : PySem.W.mroIn K C45 (.ref C45) = some true)
    (e63 : PySem.W.exmOne K (.ref C45) (.ref C45) = some true)
    (e64 : K.lookup f47 = some ⟨oc48, od48, .func (PySem.W.ksFn "__init__" "Missing.__init__" (defArgs s_MissingU_initU) (defBody s_MissingU_initU) (defScope s_MissingU_initU) .none .none doc48 pm48 an48 (.ref cda48) ct48 cc48), osl48⟩)
    (e65 : PySem.W.codeIn K (.ref cda48) "Missing.__init__" = true)
    (e66 : K.lookup cda48 = some ⟨ccl48, cdd48, .fields vs48, ccs48⟩)
    (e67 : vs48[2]? = some (.str P.main.file tf48))
    (e68 : K.lookup cc48 = some ⟨cl48, cld48, .cell (some (.ref C45)), csl48⟩)
    (e69 : PySem.W.findIn K (.ref C45) "word" = some none)
    (e70 : PySem.W.findIn K (.ref C45) "mode" = some none)
    (a72 : PySem.W.nsIn K mainGlobals "Present" = some (some (.ref C71)))
    (e75 : K.lookup C71 = some (excClassObj nm74 qn74 C71 N74 bs74 bm74 true sn74 sub74 ab74 col74 dd74 k074 k174 k274 k374 k574 "ValueError.__new__"))
    (e76 : PySem.HandSPX.refsVE bm74 = true)
    (e77 : PySem.W.findIn K (.ref C71) "__setattr__" = some (some (.builtin "object.__setattr__")))
    (e78 : PySem.W.findIn K (.ref C71) "__getattribute__" = some (some (.builtin "BaseException.__getattribute__")))
    (e79 : PySem.W.findIn K (.ref C71) "__getattr__" = some none)
    (e80 : PySem.W.findIn K (.ref C71) "__init__" = some (some (.ref f73)))
    (e81 : PySem.W.typeIn K (.ref f73) = some (.type "function"))
    (e82 : PySem.W.keepIn K (.ref C71) = true)
    (e83 : PySem.W.subIn K (.ref C71) (.type "BaseException") = some true)
    (e84 : PySem.W.subIn K (.ref C71) (.type "ValueError") = some true)
    (e85 : PySem.W.typeIn K (.ref C71) = some (.type "type"))
    (e86 : PySem.W.hasDictIn K C71 = true)
    (e87 : PySem.W.ks_superIn K C71 C71 "__init__" = some (some (.builtin "ValueError.__init__")))
    (e88 : PySem.W.mroIn K C71 (.ref C71) = some true)
    (e89 : PySem.W.exmOne K (.ref C71) (.ref C71) = some true)
    (e90 : K.lookup f73 = some ⟨oc74, od74, .func (PySem.W.ksFn "__init__" "Present.__init__" (defArgs s_PresentU_initU) (defBody s_PresentU_initU) (defScope s_PresentU_initU) .none .none doc74 pm74 an74 (.ref cda74) ct74 cc74), osl74⟩)
    (e91 : PySem.W.codeIn K (.ref cda74) "Present.__init__" = true)
    (e92 : K.lookup cda74 = some ⟨ccl74, cdd74, .fields vs74, ccs74⟩)
    (e93 : vs74[2]? = some (.str P.main.file tf74))
    (e94 : K.lookup cc74 = some ⟨cl74, cld74, .cell (some (.ref C71)), csl74⟩)
    (e95 : PySem.W.findIn K (.ref C71) "word" = some none)
    (e96 : PySem.W.findIn K (.ref C71) "mode" = some none)
    (a98 : PySem.W.nsIn K mainGlobals "Doomed" = some (some (.ref C97)))
    (e101 : K.lookup C97 = some (excClassObj nm100 qn100 C97 N100 bs100 bm100 true sn100 sub100 ab100 col100 dd100 k0100 k1100 k2100 k3100 k5100 "ValueError.__new__"))
    (e102 : PySem.HandSPX.refsVE bm100 = true)
    (e103 : PySem.W.findIn K (.ref C97) "__setattr__" = some (some (.builtin "object.__setattr__")))
    (e104 : PySem.W.findIn K (.ref C97) "__getattribute__" = some (some (.builtin "BaseException.__getattribute__")))
    (e105 : PySem.W.findIn K (.ref C97) "__getattr__" = some none)
    (e106 : PySem.W.findIn K (.ref C97) "__init__" = some (some (.ref f99)))
    (e107 : PySem.W.typeIn K (.ref f99) = some (.type "function"))
    (e108 : PySem.W.keepIn K (.ref C97) = true)
    (e109 : PySem.W.subIn K (.ref C97) (.type "BaseException") = some true)
    (e110 : PySem.W.subIn K (.ref C97) (.type "ValueError") = some true)
    (e111 : PySem.W.typeIn K (.ref C97) = some (.type "type"))
    (e112 : PySem.W.hasDictIn K C97 = true)
    (e113 : PySem.W.ks_superIn K C97 C97 "__init__" = some (some (.builtin "ValueError.__init__")))
    (e114 : PySem.W.mroIn K C97 (.ref C97) = some true)
    (e115 : PySem.W.exmOne K (.ref C97) (.ref C97) = some true)
    (e116 : K.lookup f99 = some ⟨oc100, od100, .func (PySem.W.ksFn "__init__" "Doomed.__init__" (defArgs s_DoomedU_initU) (defBody s_DoomedU_initU) (defScope s_DoomedU_initU) .none .none doc100 pm100 an100 (.ref cda100) ct100 cc100), osl100⟩)
    (e117 : PySem.W.codeIn K (.ref cda100) "Doomed.__init__" = true)
    (e118 : K.lookup cda100 = some ⟨ccl100, cdd100, .fields vs100, ccs100⟩)
    (e119 : vs100[2]? = some (.str P.main.file tf100))
    (e120 : K.lookup cc100 = some ⟨cl100, cld100, .cell (some (.ref C97)), csl100⟩)
    (e121 : PySem.W.findIn K (.ref C97) "word" = some none)
    (e122 : PySem.W.findIn K (.ref C97) "first" = some none)
    (a124 : PySem.W.nsIn K mainGlobals "Refused" = some (some (.ref C123)))
    (e127 : K.lookup C123 = some (excClassObj nm126 qn126 C123 N126 bs126 bm126 true sn126 sub126 ab126 col126 dd126 k0126 k1126 k2126 k3126 k5126 "ValueError.__new__"))
    (e128 : PySem.HandSPX.refsVE bm126 = true)
    (e129 : PySem.W.findIn K (.ref C123) "__setattr__" = some (some (.builtin "object.__setattr__")))
    (e130 : PySem.W.findIn K (.ref C123) "__getattribute__" = some (some (.builtin "BaseException.__getattribute__")))
    (e131 : PySem.W.findIn K (.ref C123) "__getattr__" = some none)
    (e132 : PySem.W.findIn K (.ref C123) "__init__" = some (some (.ref f125)))
    (e133 : PySem.W.typeIn K (.ref f125) = some (.type "function"))
    (e134 : PySem.W.keepIn K (.ref C123) = true)
    (e135 : PySem.W.subIn K (.ref C123) (.type "BaseException") = some true)
    (e136 : PySem.W.subIn K (.ref C123) (.type "ValueError") = some true)
    (e137 : PySem.W.typeIn K (.ref C123) = some (.type "type"))
    (e138 : PySem.W.hasDictIn K C123 = true)
    (e139 : PySem.W.ks_superIn K C123 C123 "__init__" = some (some (.builtin "ValueError.__init__")))
    (e140 : PySem.W.mroIn K C123 (.ref C123) = some true)
    (e141 : PySem.W.exmOne K (.ref C123) (.ref C123) = some true)
    (e142 : K.lookup f125 = some ⟨oc126, od126, .func (PySem.W.ksFn "__init__" "Refused.__init__" (defArgs s_RefusedU_initU) (defBody s_RefusedU_initU) (defScope s_RefusedU_initU) .none .none doc126 pm126 an126 (.ref cda126) ct126 cc126), osl126⟩)
    (e143 : PySem.W.codeIn K (.ref cda126) "Refused.__init__" = true)
    (e144 : K.lookup cda126 = some ⟨ccl126, cdd126, .fields vs126, ccs126⟩)
    (e145 : vs126[2]? = some (.str P.main.file tf126))
    (e146 : K.lookup cc126 = some ⟨cl126, cld126, .cell (some (.ref C123)), csl126⟩)
    (e147 : PySem.W.findIn K (.ref C123) "word" = some none)
    (a149 : PySem.W.nsIn K mainGlobals "NoBlock" = some (some (.ref C148)))
    (e152 : K.lookup C148 = some (excClassObj nm151 qn151 C148 N151 bs151 bm151 true sn151 sub151 ab151 col151 dd151 k0151 k1151 k2151 k3151 k5151 "ValueError.__new__"))
    (e153 : PySem.HandSPX.refsVE bm151 = true)
    (e154 : PySem.W.findIn K (.ref C148) "__setattr__" = some (some (.builtin "object.__setattr__")))
    (e155 : PySem.W.findIn K (.ref C148) "__getattribute__" = some (some (.builtin "BaseException.__getattribute__")))
    (e156 : PySem.W.findIn K (.ref C148) "__getattr__" = some none)
    (e157 : PySem.W.findIn K (.ref C148) "__init__" = some (some (.ref f150)))
    (e158 : PySem.W.typeIn K (.ref f150) = some (.type "function"))
    (e159 : PySem.W.keepIn K (.ref C148) = true)
    (e160 : PySem.W.subIn K (.ref C148) (.type "BaseException") = some true)
    (e161 : PySem.W.subIn K (.ref C148) (.type "ValueError") = some true)
    (e162 : PySem.W.typeIn K (.ref C148) = some (.type "type"))
    (e163 : PySem.W.hasDictIn K C148 = true)
    (e164 : PySem.W.ks_superIn K C148 C148 "__init__" = some (some (.builtin "ValueError.__init__")))
    (e165 : PySem.W.mroIn K C148 (.ref C148) = some true)
    (e166 : PySem.W.exmOne K (.ref C148) (.ref C148) = some true)
    (e167 : K.lookup f150 = some ⟨oc151, od151, .func (PySem.W.ksFn "__init__" "NoBlock.__init__" (defArgs s_NoBlockU_initU) (defBody s_NoBlockU_initU) (defScope s_NoBlockU_initU) .none .none doc151 pm151 an151 (.ref cda151) ct151 cc151), osl151⟩)
    (e168 : PySem.W.codeIn K (.ref cda151) "NoBlock.__init__" = true)
    (e169 : K.lookup cda151 = some ⟨ccl151, cdd151, .fields vs151, ccs151⟩)
    (e170 : vs151[2]? = some (.str P.main.file tf151))
    (e171 : K.lookup cc151 = some ⟨cl151, cld151, .cell (some (.ref C148)), csl151⟩)
    (a173 : PySem.W.nsIn K mainGlobals "Waits" = some (some (.ref C172)))
    (e176 : K.lookup C172 = some (excClassObj nm175 qn175 C172 N175 bs175 bm175 true sn175 sub175 ab175 col175 dd175 k0175 k1175 k2175 k3175 k5175 "ValueError.__new__"))
    (e177 : PySem.HandSPX.refsVE bm175 = true)
    (e178 : PySem.W.findIn K (.ref C172) "__setattr__" = some (some (.builtin "object.__setattr__")))
    (e179 : PySem.W.findIn K (.ref C172) "__getattribute__" = some (some (.builtin "BaseException.__getattribute__")))
    (e180 : PySem.W.findIn K (.ref C172) "__getattr__" = some none)
    (e181 : PySem.W.findIn K (.ref C172) "__init__" = some (some (.ref f174)))
    (e182 : PySem.W.typeIn K (.ref f174) = some (.type "function"))
    (e183 : PySem.W.keepIn K (.ref C172) = true)
    (e184 : PySem.W.subIn K (.ref C172) (.type "BaseException") = some true)
    (e185 : PySem.W.subIn K (.ref C172) (.type "ValueError") = some true)
    (e186 : PySem.W.typeIn K (.ref C172) = some (.type "type"))
    (e187 : PySem.W.hasDictIn K C172 = true)
    (e188 : PySem.W.ks_superIn K C172 C172 "__init__" = some (some (.builtin "ValueError.__init__")))
    (e189 : PySem.W.mroIn K C172 (.ref C172) = some true)
    (e190 : PySem.W.exmOne K (.ref C172) (.ref C172) = some true)
    (e191 : K.lookup f174 = some ⟨oc175, od175, .func (PySem.W.ksFn "__init__" "Waits.__init__" (defArgs s_WaitsU_initU) (defBody s_WaitsU_initU) (defScope s_WaitsU_initU) .none .none doc175 pm175 an175 (.ref cda175) ct175 cc175), osl175⟩)
    (e192 : PySem.W.codeIn K (.ref cda175) "Waits.__init__" = true)
    (e193 : K.lookup cda175 = some ⟨ccl175, cdd175, .fields vs175, ccs175⟩)
    (e194 : vs175[2]? = some (.str P.main.file tf175))
    (e195 : K.lookup cc175 = some ⟨cl175, cld175, .cell (some (.ref C172)), csl175⟩)
    (e196 : PySem.W.findIn K (.ref C172) "word" = some none)
    (e197 : PySem.W.findIn K (.ref C172) "record" = some none)
    (a199 : PySem.W.nsIn K mainGlobals "NoRecord" = some (some (.ref C198)))
    (e202 : K.lookup C198 = some (excClassObj nm201 qn201 C198 N201 bs201 bm201 true sn201 sub201 ab201 col201 dd201 k0201 k1201 k2201 k3201 k5201 "ValueError.__new__"))
    (e203 : PySem.HandSPX.refsVE bm201 = true)
    (e204 : PySem.W.findIn K (.ref C198) "__setattr__" = some (some (.builtin "object.__setattr__")))
    (e205 : PySem.W.findIn K (.ref C198) "__getattribute__" = some (some (.builtin "BaseException.__getattribute__")))
    (e206 : PySem.W.findIn K (.ref C198) "__getattr__" = some none)
    (e207 : PySem.W.findIn K (.ref C198) "__init__" = some (some (.ref f200)))
    (e208 : PySem.W.typeIn K (.ref f200) = some (.type "function"))
    (e209 : PySem.W.keepIn K (.ref C198) = true)
    (e210 : PySem.W.subIn K (.ref C198) (.type "BaseException") = some true)
    (e211 : PySem.W.subIn K (.ref C198) (.type "ValueError") = some true)
    (e212 : PySem.W.typeIn K (.ref C198) = some (.type "type"))
    (e213 : PySem.W.hasDictIn K C198 = true)
    (e214 : PySem.W.ks_superIn K C198 C198 "__init__" = some (some (.builtin "ValueError.__init__")))
    (e215 : PySem.W.mroIn K C198 (.ref C198) = some true)
    (e216 : PySem.W.exmOne K (.ref C198) (.ref C198) = some true)
    (e217 : K.lookup f200 = some ⟨oc201, od201, .func (PySem.W.ksFn "__init__" "NoRecord.__init__" (defArgs s_NoRecordU_initU) (defBody s_NoRecordU_initU) (defScope s_NoRecordU_initU) .none .none doc201 pm201 an201 (.ref cda201) ct201 cc201), osl201⟩)
    (e218 : PySem.W.codeIn K (.ref cda201) "NoRecord.__init__" = true)
    (e219 : K.lookup cda201 = some ⟨ccl201, cdd201, .fields vs201, ccs201⟩)
    (e220 : vs201[2]? = some (.str P.main.file tf201))
    (e221 : K.lookup cc201 = some ⟨cl201, cld201, .cell (some (.ref C198)), csl201⟩)
    (e222 : PySem.W.findIn K (.ref C198) "record" = some none)
    (a224 : PySem.W.nsIn K mainGlobals "BadWord" = some (some (.ref C223)))
    (e227 : K.lookup C223 = some (excClassObj nm226 qn226 C223 N226 bs226 bm226 true sn226 sub226 ab226 col226 dd226 k0226 k1226 k2226 k3226 k5226 "ValueError.__new__"))
    (e228 : PySem.HandSPX.refsVE bm226 = true)
    (e229 : PySem.W.findIn K (.ref C223) "__setattr__" = some (some (.builtin "object.__setattr__")))
    (e230 : PySem.W.findIn K (.ref C223) "__getattribute__" = some (some (.builtin "BaseException.__getattribute__")))
    (e231 : PySem.W.findIn K (.ref C223) "__getattr__" = some none)
    (e232 : PySem.W.findIn K (.ref C223) "__init__" = some (some (.ref f225)))
    (e233 : PySem.W.typeIn K (.ref f225) = some (.type "function"))
    (e234 : PySem.W.keepIn K (.ref C223) = true)
    (e235 : PySem.W.subIn K (.ref C223) (.type "BaseException") = some true)
    (e236 : PySem.W.subIn K (.ref C223) (.type "ValueError") = some true)
    (e237 : PySem.W.typeIn K (.ref C223) = some (.type "type"))
    (e238 : PySem.W.hasDictIn K C223 = true)
    (e239 : PySem.W.ks_superIn K C223 C223 "__init__" = some (some (.builtin "ValueError.__init__")))
    (e240 : PySem.W.mroIn K C223 (.ref C223) = some true)
    (e241 : PySem.W.exmOne K (.ref C223) (.ref C223) = some true)
    (e242 : K.lookup f225 = some ⟨oc226, od226, .func (PySem.W.ksFn "__init__" "BadWord.__init__" (defArgs s_BadWordU_initU) (defBody s_BadWordU_initU) (defScope s_BadWordU_initU) .none .none doc226 pm226 an226 (.ref cda226) ct226 cc226), osl226⟩)
    (e243 : PySem.W.codeIn K (.ref cda226) "BadWord.__init__" = true)
    (e244 : K.lookup cda226 = some ⟨ccl226, cdd226, .fields vs226, ccs226⟩)
    (e245 : vs226[2]? = some (.str P.main.file tf226))
    (e246 : K.lookup cc226 = some ⟨cl226, cld226, .cell (some (.ref C223)), csl226⟩)
    (e247 : PySem.W.findIn K (.ref C223) "word" = some none)
    (a249 : PySem.W.nsIn K mainGlobals "BadMode" = some (some (.ref C248)))
    (e252 : K.lookup C248 = some (excClassObj nm251 qn251 C248 N251 bs251 bm251 true sn251 sub251 ab251 col251 dd251 k0251 k1251 k2251 k3251 k5251 "ValueError.__new__"))
    (e253 : PySem.HandSPX.refsVE bm251 = true)
    (e254 : PySem.W.findIn K (.ref C248) "__setattr__" = some (some (.builtin "object.__setattr__")))
    (e255 : PySem.W.findIn K (.ref C248) "__getattribute__" = some (some (.builtin "BaseException.__getattribute__")))
    (e256 : PySem.W.findIn K (.ref C248) "__getattr__" = some none)
    (e257 : PySem.W.findIn K (.ref C248) "__init__" = some (some (.ref f250)))
    (e258 : PySem.W.typeIn K (.ref f250) = some (.type "function"))
    (e259 : PySem.W.keepIn K (.ref C248) = true)
    (e260 : PySem.W.subIn K (.ref C248) (.type "BaseException") = some true)
    (e261 : PySem.W.subIn K (.ref C248) (.type "ValueError") = some true)
    (e262 : PySem.W.typeIn K (.ref C248) = some (.type "type"))
    (e263 : PySem.W.hasDictIn K C248 = true)
    (e264 : PySem.W.ks_superIn K C248 C248 "__init__" = some (some (.builtin "ValueError.__init__")))
    (e265 : PySem.W.mroIn K C248 (.ref C248) = some true)
    (e266 : PySem.W.exmOne K (.ref C248) (.ref C248) = some true)
    (e267 : K.lookup f250 = some ⟨oc251, od251, .func (PySem.W.ksFn "__init__" "BadMode.__init__" (defArgs s_BadModeU_initU) (defBody s_BadModeU_initU) (defScope s_BadModeU_initU) .none .none doc251 pm251 an251 (.ref cda251) ct251 cc251), osl251⟩)
    (e268 : PySem.W.codeIn K (.ref cda251) "BadMode.__init__" = true)
    (e269 : K.lookup cda251 = some ⟨ccl251, cdd251, .fields vs251, ccs251⟩)
    (e270 : vs251[2]? = some (.str P.main.file tf251))
    (e271 : K.lookup cc251 = some ⟨cl251, cld251, .cell (some (.ref C248)), csl251⟩)
    (e272 : PySem.W.findIn K (.ref C248) "mode" = some none)
    (z273 : PySem.W.exmOne K (.ref C71) (.ref C45) = some false)
    (z274 : PySem.W.exmOne K (.ref C97) (.ref C45) = some false)
    (z275 : PySem.W.exmOne K (.ref C97) (.ref C71) = some false)
    (z276 : PySem.W.exmOne K (.ref C123) (.ref C97) = some false)
    (z277 : PySem.W.exmOne K (.ref C172) (.ref C97) = some false)
    (a279 : PySem.W.nsIn K mainGlobals "Write" = some (some (.ref C278)))
    (q280 : PySem.W.plainGet K C278 Str.empty = true)
    (q281 : PySem.W.hasDictIn K C278 = true)
    (q282 : PySem.W.plainOver K C278 = true)
    (q283 : PySem.W.findIn K (.ref C278) "__setattr__" = some (some (.builtin "object.__setattr__")))
    (z284 : PySem.W.findIn K (.ref C278) "record" = some none)
    (z285 : PySem.W.findIn K (.ref C278) "value" = some none)
    (z286 : PySem.W.findIn K (.ref C278) "fate" = some none)
    (z287 : PySem.W.findIn K (.ref C278) "holder" = some none)
    (z288 : PySem.W.findIn K (.ref C278) "level" = some none)
    (q290 : PySem.W.makesIn K C278 = true)
    (q291 : PySem.W.findIn K (.ref C278) "__init__" = some (some (.ref f289)))
    (q292 : PySem.W.isFn K (.ref f289) = true)
    (q293 : PySem.W.keepIn K (.ref C278) = true)
    (l294 : K.lookup f289 = some ⟨oc294, od294, .func (PySem.W.fnOf "__init__" "Write.__init__" (defArgs s_WriteU_initU) (defBody s_WriteU_initU) (defScope s_WriteU_initU) .none kV294 dc294 pm294 an294 cd294 ct294), sl294⟩)
    (c294 : PySem.W.codeIn K cd294 "Write.__init__" = true)
    (k294 : PySem.W.keepIn K (.ref f289) = true)
    (a296 : PySem.W.nsIn K mainGlobals "Transaction" = some (some (.ref C295)))
    (q297 : PySem.W.plainGet K C295 Str.empty = true)
    (q298 : PySem.W.hasDictIn K C295 = true)
    (q299 : PySem.W.plainOver K C295 = true)
    (q300 : PySem.W.findIn K (.ref C295) "__setattr__" = some (some (.builtin "object.__setattr__")))
    (z301 : PySem.W.findIn K (.ref C295) "number" = some none)
    (z302 : PySem.W.findIn K (.ref C295) "reasons" = some none)
    (q304 : PySem.W.makesIn K C295 = true)
    (q305 : PySem.W.findIn K (.ref C295) "__init__" = some (some (.ref f303)))
    (q306 : PySem.W.isFn K (.ref f303) = true)
    (q307 : PySem.W.keepIn K (.ref C295) = true)
    (l308 : K.lookup f303 = some ⟨oc308, od308, .func (PySem.W.fnOf "__init__" "Transaction.__init__" (defArgs s_TransactionU_initU) (defBody s_TransactionU_initU) (defScope s_TransactionU_initU) .none kV308 dc308 pm308 an308 cd308 ct308), sl308⟩)
    (c308 : PySem.W.codeIn K cd308 "Transaction.__init__" = true)
    (k308 : PySem.W.keepIn K (.ref f303) = true)
    (a310 : PySem.W.nsIn K mainGlobals "Database" = some (some (.ref C309)))
    (q311 : PySem.W.plainGet K C309 Str.empty = true)
    (q312 : PySem.W.hasDictIn K C309 = true)
    (q313 : PySem.W.plainOver K C309 = true)
    (q314 : PySem.W.findIn K (.ref C309) "__setattr__" = some (some (.builtin "object.__setattr__")))
    (z315 : PySem.W.findIn K (.ref C309) "rows" = some none)
    (z316 : PySem.W.findIn K (.ref C309) "stack" = some none)
    (z317 : PySem.W.findIn K (.ref C309) "entered" = some none)
    (z318 : PySem.W.findIn K (.ref C309) "floor" = some none)
    (z319 : PySem.W.findIn K (.ref C309) "opened" = some none)
    (q321 : PySem.W.makesIn K C309 = true)
    (q322 : PySem.W.findIn K (.ref C309) "__init__" = some (some (.ref f320)))
    (q323 : PySem.W.isFn K (.ref f320) = true)
    (q324 : PySem.W.keepIn K (.ref C309) = true)
    (l325 : K.lookup f320 = some ⟨oc325, od325, .func (PySem.W.fnOf "__init__" "Database.__init__" (defArgs s_DatabaseU_initU) (defBody s_DatabaseU_initU) (defScope s_DatabaseU_initU) .none kV325 dc325 pm325 an325 cd325 ct325), sl325⟩)
    (c325 : PySem.W.codeIn K cd325 "Database.__init__" = true)
    (k325 : PySem.W.keepIn K (.ref f320) = true)
    (q327 : PySem.W.findIn K (.ref C309) "begin" = some (some (.ref f326)))
    (q328 : PySem.W.isFn K (.ref f326) = true)
    (l329 : K.lookup f326 = some ⟨oc329, od329, .func (PySem.W.fnOf "begin" "Database.begin" (defArgs s_Database_begin) (defBody s_Database_begin) (defScope s_Database_begin) .none kV329 dc329 pm329 an329 cd329 ct329), sl329⟩)
    (c329 : PySem.W.codeIn K cd329 "Database.begin" = true)
    (k329 : PySem.W.keepIn K (.ref f326) = true)
    (q331 : PySem.W.findIn K (.ref C309) "enter_alone" = some (some (.ref f330)))
    (q332 : PySem.W.isFn K (.ref f330) = true)
    (l333 : K.lookup f330 = some ⟨oc333, od333, .func (PySem.W.fnOf "enter_alone" "Database.enter_alone" (defArgs s_Database_enter_alone) (defBody s_Database_enter_alone) (defScope s_Database_enter_alone) .none kV333 dc333 pm333 an333 cd333 ct333), sl333⟩)
    (c333 : PySem.W.codeIn K cd333 "Database.enter_alone" = true)
    (k333 : PySem.W.keepIn K (.ref f330) = true)
    (q335 : PySem.W.findIn K (.ref C309) "enter_inside" = some (some (.ref f334)))
    (q336 : PySem.W.isFn K (.ref f334) = true)
    (l337 : K.lookup f334 = some ⟨oc337, od337, .func (PySem.W.fnOf "enter_inside" "Database.enter_inside" (defArgs s_Database_enter_inside) (defBody s_Database_enter_inside) (defScope s_Database_enter_inside) .none kV337 dc337 pm337 an337 cd337 ct337), sl337⟩)
    (c337 : PySem.W.codeIn K cd337 "Database.enter_inside" = true)
    (k337 : PySem.W.keepIn K (.ref f334) = true)
    (q339 : PySem.W.findIn K (.ref C309) "enter" = some (some (.ref f338)))
    (q340 : PySem.W.isFn K (.ref f338) = true)
    (l341 : K.lookup f338 = some ⟨oc341, od341, .func (PySem.W.fnOf "enter" "Database.enter" (defArgs s_Database_enter) (defBody s_Database_enter) (defScope s_Database_enter) .none kV341 dc341 pm341 an341 cd341 ct341), sl341⟩)
    (c341 : PySem.W.codeIn K cd341 "Database.enter" = true)
    (k341 : PySem.W.keepIn K (.ref f338) = true)
    (q343 : PySem.W.findIn K (.ref C309) "doom" = some (some (.ref f342)))
    (q344 : PySem.W.isFn K (.ref f342) = true)
    (l345 : K.lookup f342 = some ⟨oc345, od345, .func (PySem.W.fnOf "doom" "Database.doom" (defArgs s_Database_doom) (defBody s_Database_doom) (defScope s_Database_doom) (.ref T346) kV345 dc345 pm345 an345 cd345 ct345), sl345⟩)
    (c345 : PySem.W.codeIn K cd345 "Database.doom" = true)
    (k345 : PySem.W.keepIn K (.ref f342) = true)
    (lT352 : K.lookup T346 = some ⟨oc347, od348, .seq #[.str "doom" t351] on349, os350⟩)
    (q354 : PySem.W.findIn K (.ref C309) "end_level" = some (some (.ref f353)))
    (q355 : PySem.W.isFn K (.ref f353) = true)
    (l356 : K.lookup f353 = some ⟨oc356, od356, .func (PySem.W.fnOf "end_level" "Database.end_level" (defArgs s_Database_end_level) (defBody s_Database_end_level) (defScope s_Database_end_level) .none kV356 dc356 pm356 an356 cd356 ct356), sl356⟩)
    (c356 : PySem.W.codeIn K cd356 "Database.end_level" = true)
    (k356 : PySem.W.keepIn K (.ref f353) = true)
    (q358 : PySem.W.findIn K (.ref C309) "end_transaction" = some (some (.ref f357)))
    (q359 : PySem.W.isFn K (.ref f357) = true)
    (l360 : K.lookup f357 = some ⟨oc360, od360, .func (PySem.W.fnOf "end_transaction" "Database.end_transaction" (defArgs s_Database_end_transaction) (defBody s_Database_end_transaction) (defScope s_Database_end_transaction) .none kV360 dc360 pm360 an360 cd360 ct360), sl360⟩)
    (c360 : PySem.W.codeIn K cd360 "Database.end_transaction" = true)
    (k360 : PySem.W.keepIn K (.ref f357) = true)
    (q362 : PySem.W.findIn K (.ref C309) "leave" = some (some (.ref f361)))
    (q363 : PySem.W.isFn K (.ref f361) = true)
    (l364 : K.lookup f361 = some ⟨oc364, od364, .func (PySem.W.fnOf "leave" "Database.leave" (defArgs s_Database_leave) (defBody s_Database_leave) (defScope s_Database_leave) (.ref T365) (.ref D372) dc364 pm364 an364 cd364 ct364), sl364⟩)
    (c364 : PySem.W.codeIn K cd364 "Database.leave" = true)
    (k364 : PySem.W.keepIn K (.ref f361) = true)
    (lT371 : K.lookup T365 = some ⟨oc366, od367, .seq #[.none] on368, os369⟩)
    (z374 : PySem.W.nsIn K D372 "commits" = some (some (.bool true)))
    (q376 : PySem.W.findIn K (.ref C309) "held_by" = some (some (.ref f375)))
    (q377 : PySem.W.isFn K (.ref f375) = true)
    (l378 : K.lookup f375 = some ⟨oc378, od378, .func (PySem.W.fnOf "held_by" "Database.held_by" (defArgs s_Database_held_by) (defBody s_Database_held_by) (defScope s_Database_held_by) .none kV378 dc378 pm378 an378 cd378 ct378), sl378⟩)
    (c378 : PySem.W.codeIn K cd378 "Database.held_by" = true)
    (k378 : PySem.W.keepIn K (.ref f375) = true)
    (q380 : PySem.W.findIn K (.ref C309) "held_records" = some (some (.ref f379)))
    (q381 : PySem.W.isFn K (.ref f379) = true)
    (l382 : K.lookup f379 = some ⟨oc382, od382, .func (PySem.W.fnOf "held_records" "Database.held_records" (defArgs s_Database_held_records) (defBody s_Database_held_records) (defScope s_Database_held_records) .none kV382 dc382 pm382 an382 cd382 ct382), sl382⟩)
    (c382 : PySem.W.codeIn K cd382 "Database.held_records" = true)
    (k382 : PySem.W.keepIn K (.ref f379) = true)
    (q384 : PySem.W.findIn K (.ref C309) "outer_records" = some (some (.ref f383)))
    (q385 : PySem.W.isFn K (.ref f383) = true)
    (l386 : K.lookup f383 = some ⟨oc386, od386, .func (PySem.W.fnOf "outer_records" "Database.outer_records" (defArgs s_Database_outer_records) (defBody s_Database_outer_records) (defScope s_Database_outer_records) .none kV386 dc386 pm386 an386 cd386 ct386), sl386⟩)
    (c386 : PySem.W.codeIn K cd386 "Database.outer_records" = true)
    (k386 : PySem.W.keepIn K (.ref f383) = true)
    (q388 : PySem.W.findIn K (.ref C309) "would_wait" = some (some (.ref f387)))
    (q389 : PySem.W.isFn K (.ref f387) = true)
    (l390 : K.lookup f387 = some ⟨oc390, od390, .func (PySem.W.fnOf "would_wait" "Database.would_wait" (defArgs s_Database_would_wait) (defBody s_Database_would_wait) (defScope s_Database_would_wait) .none kV390 dc390 pm390 an390 cd390 ct390), sl390⟩)
    (c390 : PySem.W.codeIn K cd390 "Database.would_wait" = true)
    (k390 : PySem.W.keepIn K (.ref f387) = true)
    (q392 : PySem.W.findIn K (.ref C309) "write" = some (some (.ref f391)))
    (q393 : PySem.W.isFn K (.ref f391) = true)
    (l394 : K.lookup f391 = some ⟨oc394, od394, .func (PySem.W.fnOf "write" "Database.write" (defArgs s_Database_write) (defBody s_Database_write) (defScope s_Database_write) .none kV394 dc394 pm394 an394 cd394 ct394), sl394⟩)
    (c394 : PySem.W.codeIn K cd394 "Database.write" = true)
    (k394 : PySem.W.keepIn K (.ref f391) = true)
    (q396 : PySem.W.findIn K (.ref C309) "__setitem__" = some (some (.ref f395)))
    (q397 : PySem.W.isFn K (.ref f395) = true)
    (l398 : K.lookup f395 = some ⟨oc398, od398, .func (PySem.W.fnOf "__setitem__" "Database.__setitem__" (defArgs s_DatabaseU_setitemU) (defBody s_DatabaseU_setitemU) (defScope s_DatabaseU_setitemU) .none kV398 dc398 pm398 an398 cd398 ct398), sl398⟩)
    (c398 : PySem.W.codeIn K cd398 "Database.__setitem__" = true)
    (k398 : PySem.W.keepIn K (.ref f395) = true)
    (z399 : PySem.W.noSeq K C309 = true)
    (a401 : PySem.W.nsIn K mainGlobals "_law_pool" = some (some (.ref f400)))
    (l402 : K.lookup f400 = some ⟨oc402, od402, .func (PySem.W.fnOf "_law_pool" "_law_pool" (defArgs s_law_pool) (defBody s_law_pool) (defScope s_law_pool) .none kV402 dc402 pm402 an402 cd402 ct402), sl402⟩)
    (c402 : PySem.W.codeIn K cd402 "_law_pool" = true)
    (k402 : PySem.W.keepIn K (.ref f400) = true)
    (a404 : PySem.W.nsIn K mainGlobals "_law_draw" = some (some (.ref f403)))
    (l405 : K.lookup f403 = some ⟨oc405, od405, .func (PySem.W.fnOf "_law_draw" "_law_draw" (defArgs s_law_draw) (defBody s_law_draw) (defScope s_law_draw) .none kV405 dc405 pm405 an405 cd405 ct405), sl405⟩)
    (c405 : PySem.W.codeIn K cd405 "_law_draw" = true)
    (k405 : PySem.W.keepIn K (.ref f403) = true)
    (a407 : PySem.W.nsIn K mainGlobals "_law_word" = some (some (.ref f406)))
    (l408 : K.lookup f406 = some ⟨oc408, od408, .func (PySem.W.fnOf "_law_word" "_law_word" (defArgs s_law_word) (defBody s_law_word) (defScope s_law_word) .none kV408 dc408 pm408 an408 cd408 ct408), sl408⟩)
    (c408 : PySem.W.codeIn K cd408 "_law_word" = true)
    (k408 : PySem.W.keepIn K (.ref f406) = true)
    (a410 : PySem.W.nsIn K mainGlobals "_law_records" = some (some (.ref f409)))
    (l411 : K.lookup f409 = some ⟨oc411, od411, .func (PySem.W.fnOf "_law_records" "_law_records" (defArgs s_law_records) (defBody s_law_records) (defScope s_law_records) .none kV411 dc411 pm411 an411 cd411 ct411), sl411⟩)
    (c411 : PySem.W.codeIn K cd411 "_law_records" = true)
    (k411 : PySem.W.keepIn K (.ref f409) = true)
    (a413 : PySem.W.nsIn K mainGlobals "_law_outer" = some (some (.ref f412)))
    (l414 : K.lookup f412 = some ⟨oc414, od414, .func (PySem.W.fnOf "_law_outer" "_law_outer" (defArgs s_law_outer) (defBody s_law_outer) (defScope s_law_outer) .none kV414 dc414 pm414 an414 cd414 ct414), sl414⟩)
    (c414 : PySem.W.codeIn K cd414 "_law_outer" = true)
    (k414 : PySem.W.keepIn K (.ref f412) = true)
    (a416 : PySem.W.nsIn K mainGlobals "_law_enter" = some (some (.ref f415)))
    (l417 : K.lookup f415 = some ⟨oc417, od417, .func (PySem.W.fnOf "_law_enter" "_law_enter" (defArgs s_law_enter) (defBody s_law_enter) (defScope s_law_enter) .none kV417 dc417 pm417 an417 cd417 ct417), sl417⟩)
    (c417 : PySem.W.codeIn K cd417 "_law_enter" = true)
    (k417 : PySem.W.keepIn K (.ref f415) = true)
    (a419 : PySem.W.nsIn K mainGlobals "_law_leave" = some (some (.ref f418)))
    (l420 : K.lookup f418 = some ⟨oc420, od420, .func (PySem.W.fnOf "_law_leave" "_law_leave" (defArgs s_law_leave) (defBody s_law_leave) (defScope s_law_leave) .none kV420 dc420 pm420 an420 cd420 ct420), sl420⟩)
    (c420 : PySem.W.codeIn K cd420 "_law_leave" = true)
    (k420 : PySem.W.keepIn K (.ref f418) = true)
    (a422 : PySem.W.nsIn K mainGlobals "_law_write" = some (some (.ref f421)))
    (l423 : K.lookup f421 = some ⟨oc423, od423, .func (PySem.W.fnOf "_law_write" "_law_write" (defArgs s_law_write) (defBody s_law_write) (defScope s_law_write) .none kV423 dc423 pm423 an423 cd423 ct423), sl423⟩)
    (c423 : PySem.W.codeIn K cd423 "_law_write" = true)
    (k423 : PySem.W.keepIn K (.ref f421) = true)
    (a425 : PySem.W.nsIn K mainGlobals "_law_step" = some (some (.ref f424)))
    (l426 : K.lookup f424 = some ⟨oc426, od426, .func (PySem.W.fnOf "_law_step" "_law_step" (defArgs s_law_step) (defBody s_law_step) (defScope s_law_step) .none kV426 dc426 pm426 an426 cd426 ct426), sl426⟩)
    (c426 : PySem.W.codeIn K cd426 "_law_step" = true)
    (k426 : PySem.W.keepIn K (.ref f424) = true)
    (l427 : K.lookup f0 = some ⟨oc427, od427, .func (PySem.W.fnOf "law" "law" (defArgs s_law) (defBody s_law) (defScope s_law) .none kV427 dc427 pm427 an427 cd427 ct427), sl427⟩)
    (c427 : PySem.W.codeIn K cd427 "law" = true)
    (k427 : PySem.W.keepIn K (.ref f0) = true)
    (z428 : PySem.W.nsIn K mainGlobals "isinstance" = some none)
    (z429 : PySem.W.nsIn K mainGlobals "str" = some none)
    (z430 : PySem.W.nsIn K mainGlobals "len" = some none)
    (z431 : PySem.W.nsIn K mainGlobals "super" = some none)
    (z432 : PySem.W.nsIn K mainGlobals "sorted" = some none)
    (z433 : PySem.W.nsIn K mainGlobals "abs" = some none)
    (z434 : PySem.W.nsIn K mainGlobals "int" = some none)
    (z435 : PySem.W.nsIn K mainGlobals "range" = some none)
    (z436 : PySem.W.nsIn K mainGlobals "set" = some none)
    (z437 : PySem.W.nsIn K mainGlobals "max" = some none)
    (z438 : PySem.W.nsIn K mainGlobals "min" = some none)
    (z439 : PySem.W.nsIn K mainGlobals "list" = some none)
    : ∃ fd : FuncData, (∀ (s : Shared) (v : Value), BindsTo s fd ⟨[v], []⟩ [("_law_script", v)]) ∧ ∀ base : Heap, K.In base → base.Ns mainGlobals mg → FnOk P w K mg base CX0 9 fa fd ["_law_script"] (spLaw K) := by
  have e := hfa0.symm.trans (PySem.W.mg_of X G a0)
  cases e
  exact all_mk X G hfa0 a2 r3 s4 z5 z7 z9 z11 z13 z15 z17 z19 z21 l23 z37 r38 l40 c40 k40 a42 l43 c43 k43 z44 a46 e49 e50 e51 e52 e53 e54 e55 e56 e57 e58 e59 e60 e61 e62 e63 e64 e65 e66 e67 e68 e69 e70 a72 e75 e76 e77 e78 e79 e80 e81 e82 e83 e84 e85 e86 e87 e88 e89 e90 e91 e92 e93 e94 e95 e96 a98 e101 e102 e103 e104 e105 e106 e107 e108 e109 e110 e111 e112 e113 e114 e115 e116 e117 e118 e119 e120 e121 e122 a124 e127 e128 e129 e130 e131 e132 e133 e134 e135 e136 e137 e138 e139 e140 e141 e142 e143 e144 e145 e146 e147 a149 e152 e153 e154 e155 e156 e157 e158 e159 e160 e161 e162 e163 e164 e165 e166 e167 e168 e169 e170 e171 a173 e176 e177 e178 e179 e180 e181 e182 e183 e184 e185 e186 e187 e188 e189 e190 e191 e192 e193 e194 e195 e196 e197 a199 e202 e203 e204 e205 e206 e207 e208 e209 e210 e211 e212 e213 e214 e215 e216 e217 e218 e219 e220 e221 e222 a224 e227 e228 e229 e230 e231 e232 e233 e234 e235 e236 e237 e238 e239 e240 e241 e242 e243 e244 e245 e246 e247 a249 e252 e253 e254 e255 e256 e257 e258 e259 e260 e261 e262 e263 e264 e265 e266 e267 e268 e269 e270 e271 e272 z273 z274 z275 z276 z277 a279 q280 q281 q282 q283 z284 z285 z286 z287 z288 q290 q291 q292 q293 l294 c294 k294 a296 q297 q298 q299 q300 z301 z302 q304 q305 q306 q307 l308 c308 k308 a310 q311 q312 q313 q314 z315 z316 z317 z318 z319 q321 q322 q323 q324 l325 c325 k325 q327 q328 l329 c329 k329 q331 q332 l333 c333 k333 q335 q336 l337 c337 k337 q339 q340 l341 c341 k341 q343 q344 l345 c345 k345 lT352 q354 q355 l356 c356 k356 q358 q359 l360 c360 k360 q362 q363 l364 c364 k364 lT371 z374 q376 q377 l378 c378 k378 q380 q381 l382 c382 k382 q384 q385 l386 c386 k386 q388 q389 l390 c390 k390 q392 q393 l394 c394 k394 q396 q397 l398 c398 k398 z399 a401 l402 c402 k402 a404 l405 c405 k405 a407 l408 c408 k408 a410 l411 c411 k411 a413 l414 c414 k414 a416 l417 c417 k417 a419 l420 c420 k420 a422 l423 c423 k423 a425 l426 c426 k426 l427 c427 k427 z428 z429 z430 z431 z432 z433 z434 z435 z436 z437 z438 z439
end Ic
open PySem PySem.W PyProof.Rows
set_option maxRecDepth 100000 in
set_option maxHeartbeats 0 in
theorem PySem.Challenge.cw_innercommits_k07_held_records_and_waits_holds : PySem.Challenge.rw_innercommits_k07_held_records_and_waits.Holds := by
  w_on; o_law; k_head; (case hw => w_witness2)
  k_fill
  refine L2.walk_ofB (l := PySem.Challenge.rw_innercommits_k07_held_records_and_waits) (n := 63) (k := 9) (x := "_law_script") (CX := fun _ => L2.CX0) (sp := fun w => Ic.spLaw _) rfl (by decide) rfl ⟨rfl, by decide, by decide⟩ (fun w h Y => PySem.W.kIn_of Y) ?F (fun _ _ a ns hl _ _ hS => ⟨a, ns, rfl, hS, hl, fun _ => rfl⟩) (fun _ _ _ _ _ h => h)
  case F =>
    intro w mg fa h KX G hmg
    refine' Ic.all_mk' KX G hmg ?a0 ?a2 ?r3 ?s4 ?z5 ?z7 ?z9 ?z11 ?z13 ?z15 ?z17 ?z19 ?z21 ?l23 ?z37 ?r38 ?l40 ?c40 ?k40 ?a42 ?l43 ?c43 ?k43 ?z44 ?a46 ?e49 ?e50 ?e51 ?e52 ?e53 ?e54 ?e55 ?e56 ?e57 ?e58 ?e59 ?e60 ?e61 ?e62 ?e63 ?e64 ?e65 ?e66 ?e67 ?e68 ?e69 ?e70 ?a72 ?e75 ?e76 ?e77 ?e78 ?e79 ?e80 ?e81 ?e82 ?e83 ?e84 ?e85 ?e86 ?e87 ?e88 ?e89 ?e90 ?e91 ?e92 ?e93 ?e94 ?e95 ?e96 ?a98 ?e101 ?e102 ?e103 ?e104 ?e105 ?e106 ?e107 ?e108 ?e109 ?e110 ?e111 ?e112 ?e113 ?e114 ?e115 ?e116 ?e117 ?e118 ?e119 ?e120 ?e121 ?e122 ?a124 ?e127 ?e128 ?e129 ?e130 ?e131 ?e132 ?e133 ?e134 ?e135 ?e136 ?e137 ?e138 ?e139 ?e140 ?e141 ?e142 ?e143 ?e144 ?e145 ?e146 ?e147 ?a149 ?e152 ?e153 ?e154 ?e155 ?e156 ?e157 ?e158 ?e159 ?e160 ?e161 ?e162 ?e163 ?e164 ?e165 ?e166 ?e167 ?e168 ?e169 ?e170 ?e171 ?a173 ?e176 ?e177 ?e178 ?e179 ?e180 ?e181 ?e182 ?e183 ?e184 ?e185 ?e186 ?e187 ?e188 ?e189 ?e190 ?e191 ?e192 ?e193 ?e194 ?e195 ?e196 ?e197 ?a199 ?e202 ?e203 ?e204 ?e205 ?e206 ?e207 ?e208 ?e209 ?e210 ?e211 ?e212 ?e213 ?e214 ?e215 ?e216 ?e217 ?e218 ?e219 ?e220 ?e221 ?e222 ?a224 ?e227 ?e228 ?e229 ?e230 ?e231 ?e232 ?e233 ?e234 ?e235 ?e236 ?e237 ?e238 ?e239 ?e240 ?e241 ?e242 ?e243 ?e244 ?e245 ?e246 ?e247 ?a249 ?e252 ?e253 ?e254 ?e255 ?e256 ?e257 ?e258 ?e259 ?e260 ?e261 ?e262 ?e263 ?e264 ?e265 ?e266 ?e267 ?e268 ?e269 ?e270 ?e271 ?e272 ?z273 ?z274 ?z275 ?z276 ?z277 ?a279 ?q280 ?q281 ?q282 ?q283 ?z284 ?z285 ?z286 ?z287 ?z288 ?q290 ?q291 ?q292 ?q293 ?l294 ?c294 ?k294 ?a296 ?q297 ?q298 ?q299 ?q300 ?z301 ?z302 ?q304 ?q305 ?q306 ?q307 ?l308 ?c308 ?k308 ?a310 ?q311 ?q312 ?q313 ?q314 ?z315 ?z316 ?z317 ?z318 ?z319 ?q321 ?q322 ?q323 ?q324 ?l325 ?c325 ?k325 ?q327 ?q328 ?l329 ?c329 ?k329 ?q331 ?q332 ?l333 ?c333 ?k333 ?q335 ?q336 ?l337 ?c337 ?k337 ?q339 ?q340 ?l341 ?c341 ?k341 ?q343 ?q344 ?l345 ?c345 ?k345 ?lT352 ?q354 ?q355 ?l356 ?c356 ?k356 ?q358 ?q359 ?l360 ?c360 ?k360 ?q362 ?q363 ?l364 ?c364 ?k364 ?lT371 ?z374 ?q376 ?q377 ?l378 ?c378 ?k378 ?q380 ?q381 ?l382 ?c382 ?k382 ?q384 ?q385 ?l386 ?c386 ?k386 ?q388 ?q389 ?l390 ?c390 ?k390 ?q392 ?q393 ?l394 ?c394 ?k394 ?q396 ?q397 ?l398 ?c398 ?k398 ?z399 ?a401 ?l402 ?c402 ?k402 ?a404 ?l405 ?c405 ?k405 ?a407 ?l408 ?c408 ?k408 ?a410 ?l411 ?c411 ?k411 ?a413 ?l414 ?c414 ?k414 ?a416 ?l417 ?c417 ?k417 ?a419 ?l420 ?c420 ?k420 ?a422 ?l423 ?c423 ?k423 ?a425 ?l426 ?c426 ?k426 ?l427 ?c427 ?k427 ?z428 ?z429 ?z430 ?z431 ?z432 ?z433 ?z434 ?z435 ?z436 ?z437 ?z438 ?z439
    (case a0 => k_is)
    (case a2 => k_is)
    (case r3 => k_is)
    (case s4 => k_is)
    (case z5 => k_is)
    (case z7 => k_is)
    (case z9 => k_is)
    (case z11 => k_is)
    (case z13 => k_is)
    (case z15 => k_is)
    (case z17 => k_is)
    (case z19 => k_is)
    (case z21 => k_is)
    (case l23 => k_is)
    (case z37 => k_is)
    (case r38 => k_is)
    (case l40 => k_is)
    (case c40 => k_is)
    (case k40 => k_is)
    (case a42 => k_is)
    (case l43 => k_is)
    (case c43 => k_is)
    (case k43 => k_is)
    (case z44 => k_is)
    (case a46 => k_is)
    (case e49 => k_is)
    (case e50 => kernel_rfl)
    (case e51 => k_is)
    (case e52 => k_is)
    (case e53 => k_is)
    (case e54 => k_is)
    (case e55 => k_is)
    (case e56 => k_is)
    (case e57 => k_is)
    (case e58 => k_is)
    (case e59 => k_is)
    (case e60 => k_is)
    (case e61 => kernel_rfl)
    (case e62 => k_is)
    (case e63 => kernel_rfl)
    (case e64 => k_is)
    (case e65 => k_is)
    (case e66 => k_is)
    (case e67 => exact rfl)
    (case e68 => k_is)
    (case e69 => k_is)
    (case e70 => k_is)
    (case a72 => k_is)
    (case e75 => k_is)
    (case e76 => kernel_rfl)
    (case e77 => k_is)
    (case e78 => k_is)
    (case e79 => k_is)
    (case e80 => k_is)
    (case e81 => k_is)
    (case e82 => k_is)
    (case e83 => k_is)
    (case e84 => k_is)
    (case e85 => k_is)
    (case e86 => k_is)
    (case e87 => kernel_rfl)
    (case e88 => k_is)
    (case e89 => kernel_rfl)
    (case e90 => k_is)
    (case e91 => k_is)
    (case e92 => k_is)
    (case e93 => exact rfl)
    (case e94 => k_is)
    (case e95 => k_is)
    (case e96 => k_is)
    (case a98 => k_is)
    (case e101 => k_is)
    (case e102 => kernel_rfl)
    (case e103 => k_is)
    (case e104 => k_is)
    (case e105 => k_is)
    (case e106 => k_is)
    (case e107 => k_is)
    (case e108 => k_is)
    (case e109 => k_is)
    (case e110 => k_is)
    (case e111 => k_is)
    (case e112 => k_is)
    (case e113 => kernel_rfl)
    (case e114 => k_is)
    (case e115 => kernel_rfl)
    (case e116 => k_is)
    (case e117 => k_is)
    (case e118 => k_is)
    (case e119 => exact rfl)
    (case e120 => k_is)
    (case e121 => k_is)
    (case e122 => k_is)
    (case a124 => k_is)
    (case e127 => k_is)
    (case e128 => kernel_rfl)
    (case e129 => k_is)
    (case e130 => k_is)
    (case e131 => k_is)
    (case e132 => k_is)
    (case e133 => k_is)
    (case e134 => k_is)
    (case e135 => k_is)
    (case e136 => k_is)
    (case e137 => k_is)
    (case e138 => k_is)
    (case e139 => kernel_rfl)
    (case e140 => k_is)
    (case e141 => kernel_rfl)
    (case e142 => k_is)
    (case e143 => k_is)
    (case e144 => k_is)
    (case e145 => exact rfl)
    (case e146 => k_is)
    (case e147 => k_is)
    (case a149 => k_is)
    (case e152 => k_is)
    (case e153 => kernel_rfl)
    (case e154 => k_is)
    (case e155 => k_is)
    (case e156 => k_is)
    (case e157 => k_is)
    (case e158 => k_is)
    (case e159 => k_is)
    (case e160 => k_is)
    (case e161 => k_is)
    (case e162 => k_is)
    (case e163 => k_is)
    (case e164 => kernel_rfl)
    (case e165 => k_is)
    (case e166 => kernel_rfl)
    (case e167 => k_is)
    (case e168 => k_is)
    (case e169 => k_is)
    (case e170 => exact rfl)
    (case e171 => k_is)
    (case a173 => k_is)
    (case e176 => k_is)
    (case e177 => kernel_rfl)
    (case e178 => k_is)
    (case e179 => k_is)
    (case e180 => k_is)
    (case e181 => k_is)
    (case e182 => k_is)
    (case e183 => k_is)
    (case e184 => k_is)
    (case e185 => k_is)
    (case e186 => k_is)
    (case e187 => k_is)
    (case e188 => kernel_rfl)
    (case e189 => k_is)
    (case e190 => kernel_rfl)
    (case e191 => k_is)
    (case e192 => k_is)
    (case e193 => k_is)
    (case e194 => exact rfl)
    (case e195 => k_is)
    (case e196 => k_is)
    (case e197 => k_is)
    (case a199 => k_is)
    (case e202 => k_is)
    (case e203 => kernel_rfl)
    (case e204 => k_is)
    (case e205 => k_is)
    (case e206 => k_is)
    (case e207 => k_is)
    (case e208 => k_is)
    (case e209 => k_is)
    (case e210 => k_is)
    (case e211 => k_is)
    (case e212 => k_is)
    (case e213 => k_is)
    (case e214 => kernel_rfl)
    (case e215 => k_is)
    (case e216 => kernel_rfl)
    (case e217 => k_is)
    (case e218 => k_is)
    (case e219 => k_is)
    (case e220 => exact rfl)
    (case e221 => k_is)
    (case e222 => k_is)
    (case a224 => k_is)
    (case e227 => k_is)
    (case e228 => kernel_rfl)
    (case e229 => k_is)
    (case e230 => k_is)
    (case e231 => k_is)
    (case e232 => k_is)
    (case e233 => k_is)
    (case e234 => k_is)
    (case e235 => k_is)
    (case e236 => k_is)
    (case e237 => k_is)
    (case e238 => k_is)
    (case e239 => kernel_rfl)
    (case e240 => k_is)
    (case e241 => kernel_rfl)
    (case e242 => k_is)
    (case e243 => k_is)
    (case e244 => k_is)
    (case e245 => exact rfl)
    (case e246 => k_is)
    (case e247 => k_is)
    (case a249 => k_is)
    (case e252 => k_is)
    (case e253 => kernel_rfl)
    (case e254 => k_is)
    (case e255 => k_is)
    (case e256 => k_is)
    (case e257 => k_is)
    (case e258 => k_is)
    (case e259 => k_is)
    (case e260 => k_is)
    (case e261 => k_is)
    (case e262 => k_is)
    (case e263 => k_is)
    (case e264 => kernel_rfl)
    (case e265 => k_is)
    (case e266 => kernel_rfl)
    (case e267 => k_is)
    (case e268 => k_is)
    (case e269 => k_is)
    (case e270 => exact rfl)
    (case e271 => k_is)
    (case e272 => k_is)
    (case z273 => kernel_rfl)
    (case z274 => kernel_rfl)
    (case z275 => kernel_rfl)
    (case z276 => kernel_rfl)
    (case z277 => kernel_rfl)
    (case a279 => k_is)
    (case q280 => k_is)
    (case q281 => k_is)
    (case q282 => k_is)
    (case q283 => k_is)
    (case z284 => k_is)
    (case z285 => k_is)
    (case z286 => k_is)
    (case z287 => k_is)
    (case z288 => k_is)
    (case q290 => k_is)
    (case q291 => k_is)
    (case q292 => k_is)
    (case q293 => k_is)
    (case l294 => k_is)
    (case c294 => k_is)
    (case k294 => k_is)
    (case a296 => k_is)
    (case q297 => k_is)
    (case q298 => k_is)
    (case q299 => k_is)
    (case q300 => k_is)
    (case z301 => k_is)
    (case z302 => k_is)
    (case q304 => k_is)
    (case q305 => k_is)
    (case q306 => k_is)
    (case q307 => k_is)
    (case l308 => k_is)
    (case c308 => k_is)
    (case k308 => k_is)
    (case a310 => k_is)
    (case q311 => k_is)
    (case q312 => k_is)
    (case q313 => k_is)
    (case q314 => k_is)
    (case z315 => k_is)
    (case z316 => k_is)
    (case z317 => k_is)
    (case z318 => k_is)
    (case z319 => k_is)
    (case q321 => k_is)
    (case q322 => k_is)
    (case q323 => k_is)
    (case q324 => k_is)
    (case l325 => k_is)
    (case c325 => k_is)
    (case k325 => k_is)
    (case q327 => k_is)
    (case q328 => k_is)
    (case l329 => k_is)
    (case c329 => k_is)
    (case k329 => k_is)
    (case q331 => k_is)
    (case q332 => k_is)
    (case l333 => k_is)
    (case c333 => k_is)
    (case k333 => k_is)
    (case q335 => k_is)
    (case q336 => k_is)
    (case l337 => k_is)
    (case c337 => k_is)
    (case k337 => k_is)
    (case q339 => k_is)
    (case q340 => k_is)
    (case l341 => k_is)
    (case c341 => k_is)
    (case k341 => k_is)
    (case q343 => k_is)
    (case q344 => k_is)
    (case l345 => k_is)
    (case c345 => k_is)
    (case k345 => k_is)
    (case lT352 => k_is)
    (case q354 => k_is)
    (case q355 => k_is)
    (case l356 => k_is)
    (case c356 => k_is)
    (case k356 => k_is)
    (case q358 => k_is)
    (case q359 => k_is)
    (case l360 => k_is)
    (case c360 => k_is)
    (case k360 => k_is)
    (case q362 => k_is)
    (case q363 => k_is)
    (case l364 => k_is)
    (case c364 => k_is)
    (case k364 => k_is)
    (case lT371 => k_is)
    (case z374 => k_is)
    (case q376 => k_is)
    (case q377 => k_is)
    (case l378 => k_is)
    (case c378 => k_is)
    (case k378 => k_is)
    (case q380 => k_is)
    (case q381 => k_is)
    (case l382 => k_is)
    (case c382 => k_is)
    (case k382 => k_is)
    (case q384 => k_is)
    (case q385 => k_is)
    (case l386 => k_is)
    (case c386 => k_is)
    (case k386 => k_is)
    (case q388 => k_is)
    (case q389 => k_is)
    (case l390 => k_is)
    (case c390 => k_is)
    (case k390 => k_is)
    (case q392 => k_is)
    (case q393 => k_is)
    (case l394 => k_is)
    (case c394 => k_is)
    (case k394 => k_is)
    (case q396 => k_is)
    (case q397 => k_is)
    (case l398 => k_is)
    (case c398 => k_is)
    (case k398 => k_is)
    (case z399 => k_is)
    (case a401 => k_is)
    (case l402 => k_is)
    (case c402 => k_is)
    (case k402 => k_is)
    (case a404 => k_is)
    (case l405 => k_is)
    (case c405 => k_is)
    (case k405 => k_is)
    (case a407 => k_is)
    (case l408 => k_is)
    (case c408 => k_is)
    (case k408 => k_is)
    (case a410 => k_is)
    (case l411 => k_is)
    (case c411 => k_is)
    (case k411 => k_is)
    (case a413 => k_is)
    (case l414 => k_is)
    (case c414 => k_is)
    (case k414 => k_is)
    (case a416 => k_is)
    (case l417 => k_is)
    (case c417 => k_is)
    (case k417 => k_is)
    (case a419 => k_is)
    (case l420 => k_is)
    (case c420 => k_is)
    (case k420 => k_is)
    (case a422 => k_is)
    (case l423 => k_is)
    (case c423 => k_is)
    (case k423 => k_is)
    (case a425 => k_is)
    (case l426 => k_is)
    (case c426 => k_is)
    (case k426 => k_is)
    (case l427 => k_is)
    (case c427 => k_is)
    (case k427 => k_is)
    (case z428 => k_is)
    (case z429 => k_is)
    (case z430 => k_is)
    (case z431 => k_is)
    (case z432 => k_is)
    (case z433 => k_is)
    (case z434 => k_is)
    (case z435 => k_is)
    (case z436 => k_is)
    (case z437 => k_is)
    (case z438 => k_is)
    (case z439 => k_is)
#print axioms PySem.Challenge.cw_innercommits_k07_held_records_and_waits_holds
