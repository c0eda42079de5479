import PyProof.Rows.All
import Wide.All
import OpenK.AllK
import Wide.FinOn
import HandS.ForMost
import HandS.EndBits
import HandS.Wide
import HandS.IsInst
import HandS.Style
import HandS.Walk
import HandS.ClsMeth
import HandS.Conv
import HandS.ForExc
import HandS.ExcInit
import HandS.CallSlots
import HandS.Defaults
import HandS.ExcField
import HandS.Property
import HandS.WordsExc
import HandS.TryMany
import KE.KExcSuper
import HandS.HotCalls
import HandS.Dict
import HandS.Set
import HandS.SetBool
import HandS.SetFor
import HandS.Strs
import HandS.More
import PyProof.Rows.SortShellAny
import PyProof.Rows.SetFrom
import PyProof.Rows.SetObj
import HandS.TryOnly
import KE.KDictSum
import PySem.Challenge.RW_innercommits_k03_values_of_records

set_option Elab.async false
set_option linter.all false
set_option maxRecDepth 100000
set_option maxHeartbeats 4000000
namespace Ic
open PySem L2
def top (i : Nat) : Stmt := PySem.Challenge.pw_innercommits_k03_values_of_records.main.body.getD i (.Pass ⟨0, 0, 0, 0⟩)
abbrev P : Program := PySem.Challenge.pw_innercommits_k03_values_of_records
/-! ### heaps -/
theorem sz_le {n m : Nat} (h : Nat.ble n m = true) : n ≤ m := Nat.le_of_ble_eq_true h
theorem sz_lt {n m : Nat} (h : Nat.blt n m = true) : n < m := Nat.le_of_ble_eq_true h
theorem upd_old {H : Hp} {p a : Addr} {o u : HO} (h : H a = some u) (hp : H p = none) : upd H p o a = some u := by
  rw [upd_ne (ne_of_none h hp)]; exact h
theorem upd_oth {H : Hp} {p a : Addr} {o u : HO} (hn : a ≠ p) (h : H a = some u) : upd H p o a = some u := by
  rw [upd_ne hn]; exact h
theorem cmul_l {i j : Int} (h : (decide (-(2 ^ 64) < i) && decide (i < 2 ^ 64)) = true) : CMul i j := by
  simp only [Bool.and_eq_true, decide_eq_true_eq] at h
  exact .inl h
theorem cmul_r {i j : Int} (h : (decide (-(2 ^ 64) < j) && decide (j < 2 ^ 64)) = true) : CMul i j := by
  simp only [Bool.and_eq_true, decide_eq_true_eq] at h
  exact .inr h
theorem cpow_lit {i j : Int} (h : (decide (0 ≤ j) && decide (j ≤ 1000000) && decide (i.natAbs < 2 ^ 64)) = true) : CPow i j := by
  simp only [Bool.and_eq_true, decide_eq_true_eq] at h
  exact ⟨h.1.1, h.1.2, h.2⟩
theorem cdiv_lit {i j : Int} (h : (decide (0 < j) && decide (j < 1073741824)) = true) : CDivW i j := by
  simp only [Bool.and_eq_true, decide_eq_true_eq] at h
  exact wide_div (b := 40) h.1 (by omega) (by decide) (by decide)
theorem none_upd {H : Hp} {p b : Addr} {o : HO} (h : upd H p o b = none) : b ≠ p ∧ H b = none := by
  by_cases e : b = p
  · rw [e, upd_same] at h; cases h
  · exact ⟨e, by rw [upd_ne e] at h; exact h⟩
/-- all that was tracked, but S, is as it was -/
def Kp (S : Addr → Prop) (H H' : Hp) : Prop := ∀ b u, H b = some u → ¬ S b → H' b = some u
theorem Kp.refl {S : Addr → Prop} {H : Hp} : Kp S H H := fun _ _ h _ => h
theorem Kp.trans {S : Addr → Prop} {H H1 H2 : Hp} (a : Kp S H H1) (b : Kp S H1 H2) : Kp S H H2 := fun c u h n => b c u (a c u h n) n
theorem Kp.new {S : Addr → Prop} {H H1 : Hp} {p : Addr} {o : HO} (a : Kp S H H1) (h : H1 p = none) : Kp S H (upd H1 p o) := fun c u e n => upd_old (a c u e n) h
theorem Kp.set {S : Addr → Prop} {H H1 : Hp} {p : Addr} {o : HO} (a : Kp S H H1) (h : S p) : Kp S H (upd H1 p o) := fun c u e n => upd_oth (fun z => n (z ▸ h)) (a c u e n)
theorem Kp.set1 {H H1 : Hp} {p : Addr} {o : HO} (a : Kp (fun b => b = p) H H1) : Kp (fun b => b = p) H (upd H1 p o) := a.set rfl
/-- p is none of H's -/
theorem Kp.fresh {S : Addr → Prop} {H H1 : Hp} {p : Addr} {o : HO} (a : Kp S H H1) (h : H p = none) : Kp S H (upd H1 p o) := fun c u e n => upd_oth (ne_of_none e h) (a c u e n)
theorem Kp.mono {S S' : Addr → Prop} {H H1 : Hp} (a : Kp S H H1) (h : ∀ b, S b → S' b) : Kp S' H H1 := fun c u e n => a c u e fun z => n (h c z)
theorem Kp.same {S : Addr → Prop} {H H1 H2 : Hp} (a : Same H H1) (b : Kp S H1 H2) (n : ∀ c, S c → H c = none) : Same H H2 := fun c u h => b c u (a c u h) fun z => by
  rw [n c z] at h; cases h
theorem Kp.of_same {S : Addr → Prop} {H H1 : Hp} (a : Same H H1) : Kp S H H1 := fun c u h _ => a c u h
theorem _root_.L2.Same.new {H H1 : Hp} {p : Addr} {o : HO} (a : Same H H1) (h : H1 p = none) : Same H (upd H1 p o) := fun c u e => upd_old (a c u e) h
theorem _root_.L2.Same.frsh {H H1 : Hp} {p : Addr} {o : HO} (a : Same H H1) (h : H p = none) : Same H (upd H1 p o) := fun c u e => upd_oth (ne_of_none e h) (a c u e)
theorem tyV_lst {K : PySem.W.Frag} {H : Hp} {p : Addr} {xs : List V} (h : SqL K H p xs) : tyV K "list" (.ref p) H := .inl ⟨rfl, xs, h⟩
class RdTy (α : Type) : Prop
instance : RdTy V := ⟨⟩
instance : RdTy Int := ⟨⟩
instance : RdTy Nat := ⟨⟩
instance : RdTy Bool := ⟨⟩
instance : RdTy Str := ⟨⟩
instance : RdTy HO := ⟨⟩
instance : RdTy Value := ⟨⟩
instance : RdTy Obj := ⟨⟩
instance {α : Type} : RdTy (List α) := ⟨⟩
instance {α : Type} : RdTy (Array α) := ⟨⟩
instance {α β : Type} : RdTy (Sum α β) := ⟨⟩
theorem exI {α : Type} [RdTy α] {p : α → Prop} (w : α) (h : p w) : Exists p := ⟨w, h⟩
/-! ### the pool -/
def PoolO (o : HO) (c : Nat) : Prop := ∃ a b n : Int, o = .lst [.int a, .int b, .int n] ∧ 0 ≤ a ∧ 0 ≤ b ∧ b < 2 ^ 62 ∧ 0 ≤ n ∧ n ≤ c
def PoolAt (H : Hp) (p : Addr) (c : Nat) : Prop := ∃ o, H p = some o ∧ PoolO o c
theorem PoolO.mono {o : HO} {c d : Nat} (h : PoolO o c) (l : c ≤ d) : PoolO o d := by
  obtain ⟨a, b, n, e, h1, h2, h3, h4, h5⟩ := h
  exact ⟨a, b, n, e, h1, h2, h3, h4, by omega⟩
def spPool (K : PySem.W.Frag) : Sp := fun vs H Q _ => ∃ (a : Addr) (ns : List Int) (i : Nat), vs = [.ref a, .int (i : Int)] ∧ SqL K H a (ns.map V.int) ∧ i < 1000 ∧
  ∀ p o, H p = none → PoolO o 0 → Q (.ref p) (upd H p o)
def spDraw : Sp := fun vs H Q _ => ∃ (p : Addr) (m : Int) (c : Nat) (o : HO), vs = [.ref p, .int m] ∧ H p = some o ∧ PoolO o c ∧ 0 < m ∧ m < 2 ^ 200 ∧ c < 2 ^ 40 ∧
  ∀ r o', 0 ≤ r → r < m → PoolO o' (c + 1) → Q (.int r) (upd H p o')
local macro_rules | `(tactic| walk_at "hp") => `(tactic| first | with_reducible assumption | with_reducible exact upd_same | (with_reducible apply upd_old; (focus (walk_at "hp")); (focus with_reducible assumption)) | (with_reducible apply upd_oth; (focus (first | with_reducible assumption | (with_reducible apply Ne.symm; with_reducible assumption))); walk_at "hp"))
local macro_rules | `(tactic| walk_at "sq") => `(tactic| first | with_reducible assumption | (with_reducible apply SqL.of; walk_at "hp") | (with_reducible apply SqT.of; walk_at "hp"))
local macro_rules | `(tactic| walk_at "side") => `(tactic| first | with_reducible assumption | exact ⟨_, rfl⟩ | walk_at "hp" | walk_at "sq" | (with_reducible apply tyV_lst; walk_at "sq") | (with_reducible apply Or.inl; walk_at "sq") | (with_reducible apply Or.inr; walk_at "sq") | with_reducible exact cmul_l (by decide) | with_reducible exact cmul_r (by decide) | with_reducible exact cpow_lit (by decide) | with_reducible exact cdiv_lit (by decide) | decide | exact sz_le rfl | exact sz_lt rfl | omega)
local macro_rules | `(tactic| walk_at "kp") => `(tactic| first | with_reducible assumption | with_reducible exact Kp.refl | (with_reducible apply Kp.set1; walk_at "kp") | (with_reducible apply Kp.new; (focus (walk_at "kp")); (focus with_reducible assumption)) | (with_reducible apply Kp.fresh; (focus (walk_at "kp")); (focus with_reducible assumption)))
local macro_rules | `(tactic| walk_at "rd1") => `(tactic| first
  | refine And.intro rfl ?_
  | apply exI
  | (refine Or.inl ?_; apply exI; refine And.intro rfl ?_)
  | (refine Or.inr ?_; apply exI; refine And.intro rfl ?_)
  | (refine And.intro ?_ ?_; (focus (walk_at "side"))))
local macro_rules | `(tactic| walk_at "rd") => `(tactic| repeat (walk_at "rd1"))
/-! ### further rules: a staticmethod called off its class, list of a text -/
/-- C.m is a staticmethod: its record at p, its def at f -/
structure SMet (K : PySem.W.Frag) (C : Addr) (mc : Value) (m : Str) (p f : Addr) : Prop where
  at_ : PySem.W.findCls K (.ref C) mc m = some (.get (.builtin "staticmethod.__get__") (.ref p) .none (.ref C))
  rc : ∃ rest, PySem.W.recIn K p "staticmethod" = some (.ref f :: rest)
def tSMeth (C : Addr) (sp : Sp) (dvs : List V) (E : XK) (ta : TE) (t : TA) : TE := fun σ H Q => ta σ H fun x H1 => x = .ref C ∧ t σ H1 fun vs H2 => sp (vs ++ dvs) H2 Q E
theorem pe_smeth {X : Cx} {CX : CXT} {k : Nat} {C p f : Addr} {fd : FuncData} {ps : List Str} {ds : List Value} {dvs : List V} {mc : Value} {sp : Sp} {E : XK} {o e : Expr} {es : List Expr} {m : Str} {pos apos : Pos} {ta : TE} {t : TA} {pl : Sem Bool}
    (he : PE X o ta) (r : ClX.CRead X.K C mc) (c : SMet X.K C mc m p f) (F : FnOk X.prog X.w X.K X.mg X.base CX k f fd ps sp) (hr : Room k X.A) (hk : PySem.W.keepIn X.K (.ref f) = true) (hb : Binds X.K fd ps ds) (hd : Vals dvs ds) (hx : Passes CX X E) (ha : PA X (e :: es) t)
    (hst : starEach (e :: es) X.env = (false, eval e X.env) :: starEach es X.env := by rfl) (hpl : (backTo pos (starEach es X.env)).any (·.1) = false := by rfl)
    (ht : eval (.Call (.Attribute o m apos) (e :: es) [] pos) X.env = (do
      let ov ← eval o X.env
      standAt apos.atName
      let (f, first) ← holding [ov] (getMethod ov m pl)
      callWith pos f first (backTo pos (starEach (e :: es) X.env)) (backToKw pos (keywordEach [] X.env))) := by rfl) :
    PE X (.Call (.Attribute o m apos) (e :: es) [] pos) (tSMeth C sp dvs E ta t) := by
  refine ⟨fun pins s σ H Q I h => ?_⟩
  refine PySem.W.methodCall_KW (pl := pl) (thn (he.run pins s σ H _ I h) fun u s1 ⟨x, H1, I1, rx, ex, q⟩ => ?_) ht
  subst ex
  obtain rfl : u = Value.ref C := rx
  obtain ⟨rest, hp⟩ := c.rc
  refine PySem.W.method_cls I1.kIn r.ga (PySem.W.cls_bind I1.kIn r.rd c.at_ ?_)
  refine wpAny_call (PySem.W.sm_get (s := { s1 with toks := s1.toks + 1 }) I1.kIn hp (PySem.W.handed_on rfl ?_))
  have I2 := I1.tok (s1.toks + 1)
  refine PySem.W.callWith_K (h₀ := X.base) (first := []) I2.ok.mod.kin hk (thn (ha.run pos pins _ σ H1 _ I2 q) fun us s3 ⟨vs, H2, I3, rv, q2⟩ => ⟨I3.kIn, ?_⟩) hst hpl
  exact run_fn F hr hb hd hx I3 rv q2
theorem call_list_text {X : Cx} (hc : X.calm = true) : CallR X (.type "list") (fun xs H Q => ∃ z : Str, xs = [.str z] ∧ z.length ≤ sizeLine ∧ ∀ l, H l = none → Q (.ref l) (upd H l (.lst (z.cps.toList.map fun c => .str ⟨#[c]⟩)))) := by
  intro pins s σ H xs us Q I r h
  obtain ⟨z, rfl, hz, q⟩ := h
  obtain ⟨u, rfl, t, rfl⟩ := vals1 r
  refine call_list_str (I.ok.hd hc) z t (fun h' tk acc c' kp e it => ?_) hz
  have hv : Vals (z.cps.toList.map fun c => V.str ⟨#[c]⟩) acc.toList := by
    refine vals_of_at (by rw [List.length_map, Array.length_toList, Array.length_toList, it.1]) fun j x u e1 e2 => ?_
    rw [Array.getElem?_toList] at e2
    obtain ⟨c, tk, hc1, rfl⟩ := it.2 j u e2
    rw [List.getElem?_map, Array.getElem?_toList, hc1] at e1
    cases e1
    exact ⟨tk, rfl⟩
  refine ⟨.ref s.heap.objs.size, _, I.laid (o := .lst (z.cps.toList.map fun c => V.str ⟨#[c]⟩)) (t' := tk) kp (Nat.le_refl _) ?_, rfl, q _ (I.hok.fresh (Nat.le_refl _))⟩
  exact ⟨by rw [List.length_map, Array.length_toList]; exact hz, acc.toList, c', hv, by simpa using e⟩
/-! ### data: == of lists and tuples -/
theorem eqvAll_nil {ds : List PyData} : PyData.eqvAll ds [] = ds.isEmpty := by
  cases ds <;> rfl
def asc (z : Str) : Prop := ∀ c ∈ z.cps.toList, c < 128
theorem asc_ok {z : Str} (h : asc z) : PyData.strOk z = true := by
  unfold PyData.strOk
  rw [Array.all_eq_true]
  intro i hi
  have := h z.cps[i] (by rw [Array.mem_toList_iff]; exact Array.getElem_mem hi)
  simp; omega
theorem dp_strs {K : PySem.W.Frag} {H : Hp} : ∀ ys : List Str, DpAll K H (ys.map V.str) (ys.map PyData.str)
  | [] => .nil
  | y :: r => .cons (.str y) (dp_strs r)
theorem lay_strs : ∀ {ys : List Str}, (∀ y ∈ ys, asc y) → PyData.canLayAll0 (ys.map PyData.str) = true
  | [], _ => rfl
  | y :: r, h => by
    show (PyData.strOk y && PyData.canLayAll0 (r.map PyData.str)) = true
    rw [asc_ok (h y List.mem_cons_self), lay_strs fun z hz => h z (List.mem_cons_of_mem _ hz)]; rfl
theorem depth_strs : ∀ ys : List Str, PyData.depthAll (ys.map PyData.str) = 0
  | [] => rfl
  | y :: r => by
    show max 0 (PyData.depthAll (r.map PyData.str)) = 0
    rw [depth_strs r]; rfl
theorem shaped_strs {ys : List Str} (h : ∀ y ∈ ys, asc y) : SeqAt.shaped (.list (ys.map PyData.str)) = true := by
  show (PyData.canLayAll0 (ys.map PyData.str) && decide (PyData.depthAll (ys.map PyData.str) + 1 ≤ 64)) = true
  rw [lay_strs h, depth_strs]; rfl
/-! ### letters -/
def Lets (cs : List Nat) : Prop := ∀ c ∈ cs, 97 ≤ c ∧ c ≤ 122
def chr1 (c : Nat) : Str := ⟨#[c]⟩
structure IsWord (w : Str) : Prop where
  lo : 1 ≤ w.cps.toList.length
  hi : w.cps.toList.length ≤ 8
  al : Lets w.cps.toList
def alpha : Str := "abcdefghijklmnopqrstuvwxyz"
theorem alpha_all : ∀ n : Nat, n < 26 → alpha.cps.toList[n]? = some (97 + n) := by
  have h : (List.range 26).all (fun n => decide (alpha.cps.toList[n]? = some (97 + n))) = true := by decide +kernel
  intro n hn
  exact of_decide_eq_true (List.all_eq_true.mp h n (List.mem_range.mpr hn))
theorem alpha_at {r : Int} (h0 : 0 ≤ r) (h1 : r < 26) : atI alpha.cps.toList r = some (97 + r.toNat) := by
  have e : ((r.toNat : Nat) : Int) = r := by omega
  have h := atI_nat (alpha_all r.toNat (by omega))
  rw [e] at h
  exact h
theorem join_chr : ∀ cs : List Nat, Txt.join (Str.ofString "") (cs.map chr1) = ⟨cs.toArray⟩ := by
  intro cs
  show Builtin.Str.glued (Str.ofString "") (cs.map chr1) = _
  rw [StrLaws.glued_eq_join]
  have e0 : (Str.ofString "") = Str.empty := by decide +kernel
  rw [e0]
  induction cs with
  | nil => rfl
  | cons c r ih =>
    cases r with
    | nil => rfl
    | cons b r =>
      show chr1 c ++ Str.empty ++ Str.join Str.empty ((b :: r).map chr1) = _
      rw [ih]
      show (⟨(#[c] ++ #[]) ++ (b :: r).toArray⟩ : Str) = ⟨(c :: b :: r).toArray⟩
      simp
theorem sum_chr : ∀ cs : List Nat, ((cs.map chr1).map (·.length)).sum = cs.length
  | [] => rfl
  | c :: r => by
    show 1 + ((r.map chr1).map (·.length)).sum = r.length + 1
    rw [sum_chr r]; omega
theorem alpha_len : alpha.length ≤ sizeLine := by decide +kernel
/-- [letters[draw(pool, 26)] for k in range(n)] -/
theorem lc_letters {n i0 i1 ik : Nat} {σ : St} {H1 : Hp} {D p : Addr} {o : HO} {c : Nat} {Qd : Hp → Prop} (hD : H1 D = none) (hp : H1 p = some o) (hc : PoolO o c) (hb : c + n < 2 ^ 40) (hn : n < 1000000)
    (s0 : σ[i0]? = some (some (.ref p))) (s1 : σ[i1]? = some (some (.str alpha))) (n0 : i0 ≠ ik) (n1 : i1 ≠ ik)
    (q : ∀ H' cs o', cs.length = n → Lets cs → Kp (fun b => b = p) H1 H' → H' p = some o' → PoolO o' (c + n) → H' D = some (.lst ((cs.map chr1).map V.str)) → Qd H') :
    ∃ W : Nat → Nat → Hp → Prop, (∃ m, W 0 m (upd H1 D (.lst []))) ∧ ∀ i m H, W i m H →
      ((Itr 0 n).stop i H ∧ Qd H) ∨ ((Itr 0 n).go i H ∧ ∃ Nx : Hp → Prop, (∀ H', Nx H' → ∃ m', m' < m ∧ W (i + 1) m' H') ∧ ∀ x H', (Itr 0 n).yld i H x H' → gName ik x (wipe σ [ik]) H' fun σ2 H2 => wipe σ2 [ik] = wipe σ [ik] ∧ tYes σ2 H2 fun b H3 =>
        if b = true then tOp rIxS (tVar i1) (tCall spDraw [] E0 (tCons (tVar i0) (tCons (tC (.int 26)) tNil))) σ2 H3 fun y H4 => ∃ acc, H4 D = some (.lst acc) ∧ acc.length < sizeLine ∧ Nx (upd H4 D (.lst (acc ++ [y]))) else Nx H3) := by
  have npD : p ≠ D := ne_of_none hp hD
  have w0 : ∀ v, ((wipe σ [ik]).set ik (some v))[i0]? = some (some (.ref p)) := fun v => by
    rw [List.getElem?_set_ne (Ne.symm n0), wipe_out (by simp [n0])]; exact s0
  have w1 : ∀ v, ((wipe σ [ik]).set ik (some v))[i1]? = some (some (.str alpha)) := fun v => by
    rw [List.getElem?_set_ne (Ne.symm n1), wipe_out (by simp [n1])]; exact s1
  refine lc_range (fun i H => ∃ cs o', cs.length = i ∧ Lets cs ∧ Kp (fun b => b = p) H1 H ∧ H p = some o' ∧ PoolO o' (c + i) ∧ H D = some (.lst ((cs.map chr1).map V.str))) ?_ ?_ ?_
  · exact ⟨[], o, rfl, (fun _ h => nomatch h), Kp.refl.new hD, upd_old hp hD, hc, upd_same⟩
  · rintro i H hi ⟨cs, o', e1, e2, e3, e4, e5, e6⟩
    refine ⟨?_, ?_⟩
    · show wipe ((wipe σ [ik]).set ik _) [ik] = wipe σ [ik]
      show (((σ.set ik none).set ik _).set ik none) = σ.set ik none
      rw [List.set_set, List.set_set]
    · refine ⟨_, w1 _, _, w0 _, p, 26, c + i, o', rfl, e4, e5, by decide, by decide, by omega, fun r o2 r0 r1 h2 => ?_⟩
      refine ⟨alpha, r, _, rfl, rfl, alpha_len, alpha_at r0 r1, (cs.map chr1).map V.str, upd_oth (Ne.symm npD) e6, ?_, ?_⟩
      · rw [List.length_map, List.length_map, e1, sizeLine_eq]; omega
      · refine ⟨cs ++ [97 + r.toNat], o2, ?_, ?_, ?_, ?_, h2, ?_⟩
        · rw [List.length_append, e1]; rfl
        · intro x hx
          rcases List.mem_append.mp hx with h | h
          · exact e2 x h
          · rw [List.mem_singleton] at h
            subst h
            omega
        · exact (e3.set rfl).fresh hD
        · exact upd_oth npD upd_same
        · rw [upd_same, List.map_append, List.map_append]; rfl
  · rintro H ⟨cs, o', e1, e2, e3, e4, e5, e6⟩
    exact q H cs o' e1 e2 e3 e4 e5 e6
def spWord : Sp := fun vs H Q _ => ∃ (p : Addr) (c : Nat) (o : HO), vs = [.ref p] ∧ H p = some o ∧ PoolO o c ∧ c < 2 ^ 39 ∧
  ∀ w o' H', IsWord w → PoolO o' (c + 9) → H' p = some o' → Kp (fun b => b = p) H H' → Q (.str w) H'
/-! ### words -/
def okC (c : Nat) : Bool := decide (97 ≤ c) && decide (c ≤ 122)
def wordS (z : Str) : Bool := decide (1 ≤ z.length) && decide (z.length ≤ 8) && z.cps.toList.all okC
def wordB : V → Bool
  | .str z => wordS z
  | _ => false
inductive Thing (H : Hp) : V → Prop
  | str (z : Str) (h : z.length ≤ 1000) (ha : asc z) : Thing H (.str z)
  | int (i : Int) : Thing H (.int i)
  | bl (b : Bool) : Thing H (.bl b)
  | non : Thing H .non
  | lst {p : Addr} {xs : List V} (h : H p = some (.lst xs)) : Thing H (.ref p)
  | tup {p : Addr} {xs : List V} (h : H p = some (.tup xs)) : Thing H (.ref p)
theorem Thing.same {H H' : Hp} {v : V} (s : Same H H') (t : Thing H v) : Thing H' v := by
  cases t with
  | str z h ha => exact .str z h ha
  | int i => exact .int i
  | bl b => exact .bl b
  | non => exact .non
  | lst h => exact .lst (s _ _ h)
  | tup h => exact .tup (s _ _ h)
def strB : V → Bool
  | .str _ => true
  | _ => false
theorem Thing.isi {K : PySem.W.Frag} {H : Hp} {v : V} (t : Thing H v) : ∃ ty, TyX K H v ty ∧ PySem.W.kitOne K ty (.type "str") = some (strB v) := by
  cases t with
  | str z h ha => exact ⟨_, .base (.str z), kit_ty (show kitB "str" "str" = some true by decide +kernel)⟩
  | int i => exact ⟨_, .base (.int i), kit_ty (show kitB "int" "str" = some false by decide +kernel)⟩
  | bl b => exact ⟨_, .base (.bl b), kit_ty (show kitB "bool" "str" = some false by decide +kernel)⟩
  | non => exact ⟨_, .base .non, kit_ty (by decide +kernel)⟩
  | lst h => exact ⟨_, .base (.lst h), kit_ty (show kitB "list" "str" = some false by decide +kernel)⟩
  | tup h => exact ⟨_, .base (.tup h), kit_ty (show kitB "tuple" "str" = some false by decide +kernel)⟩
theorem list1_lt (a b : Nat) : ([a] : List Nat) < [b] ↔ a < b := by
  constructor
  · intro h
    cases h with
    | rel h => exact h
    | cons h => cases h
  · intro h
    exact .rel h
theorem le_a (c : Nat) : (!decide ((⟨#[c]⟩ : Str).cps.toList < (Str.ofString "a").cps.toList)) = decide (97 ≤ c) := by
  have e : (Str.ofString "a").cps.toList = [97] := by decide +kernel
  rw [e, ← decide_not]
  apply decide_eq_decide.mpr
  show ¬ ([c] < [97]) ↔ _
  rw [list1_lt]; omega
theorem le_z (c : Nat) : (!decide ((Str.ofString "z").cps.toList < (⟨#[c]⟩ : Str).cps.toList)) = decide (c ≤ 122) := by
  have e : (Str.ofString "z").cps.toList = [122] := by decide +kernel
  rw [e, ← decide_not]
  apply decide_eq_decide.mpr
  show ¬ ([122] < [c]) ↔ _
  rw [list1_lt]; omega
theorem all_take {α : Type} {p : α → Bool} {l : List α} {i : Nat} {x : α} (h : l[i]? = some x) (a : (l.take i).all p = true) (b : p x = true) : (l.take (i + 1)).all p = true := by
  rw [List.take_add_one, h, List.all_append, a, Bool.true_and]
  show ([x] : List α).all p = true
  rw [List.all_cons, b]; rfl
theorem all_no {α : Type} {p : α → Bool} {l : List α} {i : Nat} {x : α} (h : l[i]? = some x) (b : p x = false) : l.all p = false := by
  cases e : l.all p with
  | false => rfl
  | true =>
    rw [List.all_eq_true.mp e x (List.mem_of_getElem? h)] at b
    cases b
theorem len_toList (z : Str) : z.cps.toList.length = z.length := by simp [Str.length]
theorem IsWord.ok {w : Str} (h : IsWord w) : wordS w = true := by
  unfold wordS
  rw [← len_toList, decide_eq_true h.lo, decide_eq_true h.hi, Bool.true_and, Bool.true_and, List.all_eq_true]
  intro c hc
  have := h.al c hc
  unfold okC
  rw [decide_eq_true this.1, decide_eq_true this.2]; rfl
theorem wordS_of {z : Str} (h : wordS z = true) : IsWord z := by
  unfold wordS at h
  rw [Bool.and_eq_true, Bool.and_eq_true, decide_eq_true_eq, decide_eq_true_eq, List.all_eq_true] at h
  refine ⟨by rw [len_toList]; exact h.1.1, by rw [len_toList]; exact h.1.2, fun c hc => ?_⟩
  have := h.2 c hc
  unfold okC at this
  rw [Bool.and_eq_true, decide_eq_true_eq, decide_eq_true_eq] at this
  exact this
def spIsWord : Sp := fun vs H Q _ => ∃ v, vs = [v] ∧ Thing H v ∧ Q (.bl (wordB v)) H
/-! ### own errors: an __init__ that says super().__init__(text) and stores fields -/
/-- the stores of an __init__: self.F = a parameter | a text -/
inductive Sts (ps : List Str) : List Stmt → List (Str × Sum Nat Str) → Prop
  | nil : Sts ps [] []
  | par {F p : Str} {i : Nat} {q1 q2 q3 q4 : Pos} {r : List Stmt} {fs : List (Str × Sum Nat Str)} (h : ps[i]? = some p) (t : Sts ps r fs) : Sts ps (.Assign [.Attribute (.Name "self" q1) F q2] (.Name p q3) q4 :: r) ((F, .inl i) :: fs)
  | con {F c : Str} {j : Nat} {q1 q2 q3 q4 : Pos} {r : List Stmt} {fs : List (Str × Sum Nat Str)} (t : Sts ps r fs) : Sts ps (.Assign [.Attribute (.Name "self" q1) F q2] (.Constant (.str c) j q3) q4 :: r) ((F, .inr c) :: fs)
def fldV (vs : List V) : Sum Nat Str → V
  | .inl i => vs.getD i .non
  | .inr c => .str c
def errF (vs : List V) : List (Str × Sum Nat Str) → List (Str × V) → List (Str × V)
  | [], acc => acc
  | p :: r, acc => errF vs r ((p.1, fldV vs p.2) :: acc)
/-- an exception while its __init__ runs -/
structure ErrAt (h0 h : Heap) (x C L : Addr) (m : Str → Option Value) (acc : List (Str × V)) (dd : Option Addr) : Prop where
  keep : ∀ b o, b ≠ x → h0.get? b = some o → h.get? b = some o
  sz : h0.objs.size ≤ h.objs.size
  ns : h.Ns L m
  obj : ∃ t1 : Addr, h.get? x = some ({ cls := .ref C, dict := dd, data := .fields #[.ref t1, .none, .none, .none, .bool false, .none] } : Obj)
  dct : match dd with | none => acc = [] | some dx => acc ≠ [] ∧ h0.objs.size ≤ dx ∧ dx ≠ x ∧ dx ≠ L ∧ ∃ mA, h.Ns1 dx mA ∧ ∀ f, RelO (acc.lookup f) (mA f)
theorem kept_but {K : PySem.W.Frag} {h h' : Heap} {x : Addr} (X : K.In h) (hx : K.lookup x = none) (k : ∀ b o, b ≠ x → h.get? b = some o → h'.get? b = some o) : K.In h' := fun a o e =>
  k a o (fun z => by rw [z, hx] at e; cases e) (X a o e)
/-- what the written part says of an error's class, at C; its __init__ at fI -/
structure ErrC (P : Program) (K : PySem.W.Frag) (C fI : Addr) (st : Stmt) (q : Str) (ps : List Str) (fs : List (Str × Sum Nat Str)) : Prop where
  cls : ∃ nm qn N bs bm sn sub ab col dd k0 k1 k2 k3 k5, K.lookup C = some (excClassObj nm qn C N bs bm true sn sub ab col dd k0 k1 k2 k3 k5 "ValueError.__new__") ∧ PySem.HandSPX.refsVE bm = true
  sa : PySem.W.findIn K (.ref C) "__setattr__" = some (some (.builtin "object.__setattr__"))
  ga : PySem.W.findIn K (.ref C) "__getattribute__" = some (some (.builtin "BaseException.__getattribute__"))
  gg : PySem.W.findIn K (.ref C) "__getattr__" = some none
  noF : ∀ p ∈ fs, PySem.W.findIn K (.ref C) p.1 = some none
  iC : PySem.W.findIn K (.ref C) "__init__" = some (some (.ref fI))
  tC : PySem.W.typeIn K (.ref fI) = some (.type "function")
  kC : PySem.W.keepIn K (.ref C) = true
  exC : PySem.W.subIn K (.ref C) (.type "BaseException") = some true
  veC : PySem.W.subIn K (.ref C) (.type "ValueError") = some true
  tyC : PySem.W.typeIn K (.ref C) = some (.type "type")
  hdC : PySem.W.hasDictIn K C = true
  su : PySem.W.ks_superIn K C C "__init__" = some (some (.builtin "ValueError.__init__"))
  mro : PySem.W.mroIn K C (.ref C) = some true
  te : PySem.W.exmOne K (.ref C) (.ref C) = some true
  op : PySem.W.nsIn K cStatics "thirdparty.any" = some none
  fn : ∃ (oc : Value) (od : Option Addr) (doc pm : Value) (an : Option Addr) (cda cc : Addr) (ct : Value) (osl : Array (Option Value)) (ccl : Value) (cdd : Option Addr) (vs : Array Value) (ccs : Array (Option Value)) (tf : Tok) (cl : Value) (cld : Option Addr) (csl : Array (Option Value)),
    K.lookup fI = some ⟨oc, od, .func (PySem.W.ksFn "__init__" q (defArgs st) (defBody st) (defScope st) .none .none doc pm an (.ref cda) ct cc), osl⟩ ∧ PySem.W.codeIn K (.ref cda) q = true ∧
    K.lookup cda = some ⟨ccl, cdd, .fields vs, ccs⟩ ∧ vs[2]? = some (.str P.main.file tf) ∧ K.lookup cc = some ⟨cl, cld, .cell (some (.ref C)), csl⟩
  hd : ∃ ar : Arg, ((defArgs st).posonlyargs ++ (defArgs st).args).head? = some ar ∧ ar.arg = "self"
  bd : ∀ (doc pm : Value) (an : Option Addr) (cda cc : Addr) (ct : Value) (us : List Value), us.length = ps.length + 1 → bindArgs (PySem.W.ksFn "__init__" q (defArgs st) (defBody st) (defScope st) .none .none doc pm an (.ref cda) ct cc) ⟨us, []⟩ = pure ((("self" : Str) :: ps).zip us)
  bo : ∃ (p0 p1 p2 p3 p4 p5 : Pos) (j : Nat) (msg : Str) (sts : List Stmt), defBody st = .Expr (.Call (.Attribute (.Call (.Name "super" p0) [] [] p1) "__init__" p2) [.Constant (.str msg) j p3] [] p4) p5 :: sts ∧ Sts ps sts fs ∧
    ∀ (L cda cc : Addr), ∃ pl : Sem Bool, eval (.Call (.Attribute (.Call (.Name "super" p0) [] [] p1) "__init__" p2) [.Constant (.str msg) j p3] [] p4) (PySem.W.ksEnv q (defScope st) L fI (.ref cda) cc) = (do
      let ov ← attributeBase (.Call (.Name "super" p0) [] [] p1) "__init__" (PySem.W.ksEnv q (defScope st) L fI (.ref cda) cc) (eval (.Call (.Name "super" p0) [] [] p1) (PySem.W.ksEnv q (defScope st) L fI (.ref cda) cc))
      standAt p2.atName
      let (f, first) ← holding [ov] (getMethod ov "__init__" pl)
      callWith p4 f first (backTo p4 (starEach [.Constant (.str msg) j p3] (PySem.W.ksEnv q (defScope st) L fI (.ref cda) cc))) [])
  sck : (defScope st).kind = .function
  scc : (defScope st).isCoroutine = false
  scg : (defScope st).isGenerator = false
  scn : ∀ x ∈ (defScope st).names, x.2 ≠ .cell
  scl : ∀ x ∈ (("self" : Str) :: ps), (defScope st).names.lookup x = some .local
  scs : (defScope st).names.lookup ("super" : Str) = some .globalImplicit
  scf : (defScope st).names.lookup ("__class__" : Str) = some .free
  nd : (("self" : Str) :: ps).Nodup
  top : (P.main.scope.names.lookup ("super" : Str)).isSome = false
section
open PySem PySem.W PySem.Calls PyProof.Rows PySem.HandSPX
variable {prog : Program} {w : World} {A : Around} {K : PySem.W.Frag} {C fI : Addr} {st : Stmt} {q : Str} {ps : List Str} {fs : List (Str × Sum Nat Str)}
theorem err_stores (T : ErrC prog K C fI st q ps fs) {h0 : Heap} {x L : Addr} {m : Str → Option Value} {vs : List V} {env : Env} {E : Value → Shared → Prop} (X0 : K.In h0) (hnx : K.lookup x = none) (hLx : L ≠ x)
    (hself : m "self" = some (.ref x)) (hpar : ∀ (i : Nat) p, ps[i]? = some p → ∃ v u, vs[i]? = some v ∧ RelV v u ∧ m p = some u)
    (hk : env.scope.kind = .function) (hlo : env.locals = L) (hkl : ∀ y ∈ (("self" : Str) :: ps), env.kindOf y = some .local) (hdb : ∀ y ∈ (("self" : Str) :: ps), (y == ("__debug__" : Str)) = false) :
    ∀ {sts : List Stmt} {fs' : List (Str × Sum Nat Str)}, Sts ps sts fs' → (∀ p ∈ fs', p ∈ fs) → ∀ {acc : List (Str × V)} {dd : Option Addr} {s : Shared} {Q : Flow → Shared → Prop}, ErrAt h0 s.heap x C L m acc dd → acc.length + fs'.length ≤ 100 →
      (∀ h' tk dd', ErrAt h0 h' x C L m (errF vs fs' acc) dd' → Q .next { s with heap := h', toks := tk }) → wpAny (model prog w) A (execs sts env) Q E s := by
  obtain ⟨nm, qn, N, bs, bm, sn, sub, ab, col, dd0, k0, k1, k2, k3, k5, hC, hbm⟩ := T.cls
  have hcl : clsIn K C = some { name := nm, bases := bs, mro := .ref C :: bm, ns := N, qualname := qn, hasDict := true, slotNames := sn, subclasses := sub, abstract := ab, collection := col, hasDel := false } := by unfold clsIn; rw [hC] <;> rfl
  have ldl : ∀ {y : Str} {u : Value} {pos : Pos} {s : Shared} {Q : Value → Shared → Prop}, y ∈ (("self" : Str) :: ps) → s.heap.Ns L m → m y = some u → Q u s → wpAny (model prog w) A (eval (.Name y pos) env) Q E s :=
    fun {y u pos s Q} hy hn hv h => wpAny_Name (wpAny_loadName_local hk (hkl y hy) (by rw [hlo]; exact hn) hv h) (hdb y hy)
  have hsf : ("self" : Str) ∈ (("self" : Str) :: ps) := List.mem_cons_self
  -- one store
  have one : ∀ {F : Str} {y : V} {u : Value} {acc : List (Str × V)} {dd : Option Addr} {s : Shared} {Q : Unit → Shared → Prop}, findIn K (.ref C) F = some none → RelV y u → ErrAt h0 s.heap x C L m acc dd → acc.length ≤ 99 →
      (∀ h' tk dd', ErrAt h0 h' x C L m ((F, y) :: acc) dd' → Q () { s with heap := h', toks := tk }) → wpAny (model prog w) A (setAttr (.ref x) F u) Q E s := by
    intro F y u acc dd s Q hF ry S hl hq
    obtain ⟨kp, sz, hn, ⟨t1, hx⟩, hd⟩ := S
    have X : K.In s.heap := kept_but X0 hnx kp
    obtain ⟨hp, g, d, tk, os⟩ := s
    obtain ⟨oL, esL, epL, hoL, hrL⟩ := id hn
    cases dd with
    | none =>
      have hd : acc = [] := hd
      subst hd
      refine set_plain X (ox := excO C t1) (od := none) ⟨hx, rfl, rfl, trivial⟩ T.sa ?_
      refine exc_osa X hx hcl (show refsVE (.ref C :: bm) = true from hbm) rfl hF (fun h₃ tk₃ dx k₃ dn dne hx₃ hn₃ => ?_)
      have dL : dx ≠ L := fun z => by
        have := Heap.lt_size hoL
        rw [← z] at this
        exact absurd (Nat.lt_of_lt_of_le this dn) (Nat.lt_irrefl _)
      have z3 : dx < h₃.objs.size := by
        obtain ⟨o, _, _, e, _⟩ := hn₃
        exact Heap.lt_size e
      refine hq h₃ tk₃ (some dx) ⟨fun b o hb e => k₃ b o hb (kp b o hb e), Nat.le_of_lt (Nat.lt_of_le_of_lt (Nat.le_trans sz dn) z3), ⟨oL, esL, epL, k₃ _ _ hLx hoL, hrL⟩, ⟨t1, hx₃⟩, ?_⟩
      exact ⟨List.cons_ne_nil _ _, Nat.le_trans sz dn, dne, dL, _, hn₃, relO_put (fs := []) ry fun g => True.intro⟩
    | some dx =>
      obtain ⟨_, d1, d2, d3, mA, hns, rel⟩ := hd
      have hw := within_of rel
      obtain ⟨oD, _, _, hoD, _, _⟩ := hns.count hw
      refine set_plain X (ox := { cls := .ref C, dict := some dx, data := .fields #[.ref t1, .none, .none, .none, .bool false, .none] }) (od := some oD) ⟨hx, rfl, rfl, hoD⟩ T.sa ?_
      refine PySem.OEX.osa_old X hx hns hw (by rw [List.length_map]; omega) hcl (show refsVE (.ref C :: bm) = true from hbm) rfl hF (fun h' tk' k hn' => ?_)
      have z3 : dx < h'.objs.size := by
        obtain ⟨o, _, _, e, _⟩ := hn'
        exact Heap.lt_size e
      refine hq h' tk' (some dx) ⟨fun b o hb e => k b o (fun z => ?_) (kp b o hb e), Nat.le_of_lt (Nat.lt_of_le_of_lt d1 z3), ⟨oL, esL, epL, k _ _ (Ne.symm d3) hoL, hrL⟩, ⟨t1, k _ _ (Ne.symm d2) hx⟩, ⟨List.cons_ne_nil _ _, d1, d2, d3, _, hn', relO_put ry rel⟩⟩
      have := Heap.lt_size e
      rw [z] at this
      exact absurd (Nat.lt_of_lt_of_le this d1) (Nat.lt_irrefl _)
  intro sts fs' S
  induction S with
  | nil =>
    intro hfs acc dd s Q S hl hq
    exact wpAny_execs_nil (by have := hq s.heap s.toks dd S; exact this)
  | @par F p i q1 q2 q3 q4 r fs1 h t ih =>
    intro hfs acc dd s Q S hl hq
    obtain ⟨v, u, hv, ru, hm⟩ := hpar i p h
    have hp : p ∈ (("self" : Str) :: ps) := List.mem_cons_of_mem _ (List.mem_of_getElem? h)
    refine wpAny_execs_cons (plainObj_wpAny_Assign_Attribute ?_)
    refine ldl hp S.ns hm (ldl hsf S.ns hself ?_)
    have hl2 : acc.length + (fs1.length + 1) ≤ 100 := hl
    refine one (hfs _ List.mem_cons_self |> T.noF _) ru S (by omega) fun h' tk dd' S' => ?_
    refine ih (fun z hz => hfs z (List.mem_cons_of_mem _ hz)) (s := { s with heap := h', toks := tk }) S' (by rw [List.length_cons]; omega) fun h'' tk' dd'' S'' => ?_
    have e : errF vs ((F, Sum.inl i) :: fs1) acc = errF vs fs1 ((F, v) :: acc) := by
      show errF vs fs1 ((F, vs.getD i .non) :: acc) = _
      rw [List.getD_eq_getElem?_getD, hv]; rfl
    rw [e] at hq
    exact hq h'' tk' dd'' S''
  | @con F c j q1 q2 q3 q4 r fs1 t ih =>
    intro hfs acc dd s Q S hl hq
    refine wpAny_execs_cons (plainObj_wpAny_Assign_Attribute ?_)
    refine Calls.Constant_str (ldl (s := { s with toks := s.toks + 1 }) hsf S.ns hself ?_)
    have hl2 : acc.length + (fs1.length + 1) ≤ 100 := hl
    refine one (y := .str c) (s := { s with toks := s.toks + 1 }) (hfs _ List.mem_cons_self |> T.noF _) ⟨_, rfl⟩ S (by omega) fun h' tk dd' S' => ?_
    refine ih (fun z hz => hfs z (List.mem_cons_of_mem _ hz)) (s := { s with heap := h', toks := tk }) S' (by rw [List.length_cons]; omega) fun h'' tk' dd'' S'' => ?_
    exact hq h'' tk' dd'' S''
end
section
open PySem PySem.W PySem.Calls PyProof.Rows PySem.HandSPX
variable {prog : Program} {w : World} {A : Around} {K : PySem.W.Frag} {C fI : Addr} {st : Stmt} {q : Str} {ps : List Str} {fs : List (Str × Sum Nat Str)}
theorem call_mw (T : ErrC prog K C fI st q ps fs) {E : Value → Shared → Prop} {h : Heap} {g : Array GenState} {d : Drawn} {t : Nat} {os : OsState} {u e t0 : Addr} {rest : List Value} {Q : Value → Shared → Prop} (X : K.In h)
    (he : h.get? e = some (excO C t0)) (hu : h.get? u = some (kxs_mw "ValueError.__init__" e)) (hrest : rest.length ≤ sizeLine)
    (hq : ∀ h' t1, (∀ b o, b ≠ e → h.get? b = some o → h'.get? b = some o) → h'.get? e = some (excO C t1) → Q .none ⟨h', g, d, t, os⟩) :
    wpAny (model prog w) A (call (.ref u) rest) Q E ⟨h, g, d, t, os⟩ := by
  obtain ⟨nm, qn, N, bs, bm, sn, sub, ab, col, dd0, k0, k1, k2, k3, k5, hC, hbm⟩ := T.cls
  refine wpAny_call (codeAny_of_tree ?_)
  show wpAny _ A.in1 (callAny (.ref u) ⟨rest, []⟩) _ _ _
  simp only [callAny]
  refine wpAny_bind (wpAny_load hu ?_)
  simp only [kxs_mw, show (Value.type "method-wrapper" == Value.type "method" || Value.type "method-wrapper" == Value.type "builtin_function_or_method" || Value.type "method-wrapper" == Value.type "method-wrapper") = true by decide, if_true]
  refine KFB.if_so (by decide) ?_
  refine wpAny_bind (check_bound_init F.excBase_ValueError.toExcCallFacts (X _ _ hC) he rfl ?_)
  refine wpAny_bind (wpAny_pure (wpAny_pure ?_))
  refine ⟨plainId_quiet F.excBase_ValueError.init.plain _, codeAny_builtin F.excBase_ValueError.initEntry ?_⟩
  exact exc_init_tree (cls := .ref C) (t0 := t0) (dv := none) (c2 := .none) (c3 := .none) (b4 := .bool false) he hrest fun h' k e1 _ => hq h' _ k e1
theorem err_init (T : ErrC prog K C fI st q ps fs) {R : Result → Shared → Prop} {s : Shared} {x t0 : Addr} {vs : List V} {us : List Value} {mg : Str → Option Value} (X : K.In s.heap) (hlim : s.heap.NoLimit)
    (G : s.heap.Ns mainGlobals mg) (hsup : mg "super" = none) (B : ∃ mb, s.heap.Ns builtinsNs mb ∧ ∀ y : Str, y ≠ "__name__" → mb y = bootBuiltins y)
    (hx : s.heap.get? x = some (excO C t0)) (hnx : K.lookup x = none) (hroom : A.depth < recursionLimit) (hv : Vals vs us) (hlen : vs.length = ps.length) (hfs : fs.length ≤ 90) (hdb : ∀ y ∈ (("self" : Str) :: ps), (y == ("__debug__" : Str)) = false)
    (hq : ∀ h' tk dd L m, L ≠ x → s.heap.objs.size ≤ L → ErrAt s.heap h' x C L m (errF vs fs []) dd → R (.ok (.ret .none)) { s with heap := h', toks := tk }) :
    codeAny (model prog w) A (.call (.ref fI) ⟨.ref x :: us, []⟩) R s := by
  obtain ⟨oc, od, doc, pm, an, cda, cc, ct, osl, ccl, cdd, cvs, ccs, tf, cl, cld, csl, ho, hcd, hcode, hcv, hcell⟩ := T.fn
  obtain ⟨nm, qn, N, bs, bm, sn, sub, ab, col, dd0, k0, k1, k2, k3, k5, hC, hbm⟩ := T.cls
  obtain ⟨p0, p1, p2, p3, p4, p5, j, msg, sts, hbody, hsts, hev⟩ := T.bo
  obtain ⟨ar, har, hself⟩ := T.hd
  have hcl : clsIn K C = some { name := nm, bases := bs, mro := .ref C :: bm, ns := N, qualname := qn, hasDict := true, slotNames := sn, subclasses := sub, abstract := ab, collection := col, hasDel := false } := by unfold clsIn; rw [hC] <;> rfl
  have hul : us.length = ps.length := by rw [← hlen]; exact hv.length.symm
  have hbind := BindsTo.of_eq (s := s) (T.bd doc pm an cda cc ct (.ref x :: us) (by rw [List.length_cons, hul]))
  have binK : ∀ y ∈ ((("self" : Str) :: ps).zip (Value.ref x :: us)), (defScope st).names.lookup y.1 = some .local := fun ⟨n, u⟩ hy => T.scl n (List.of_mem_zip hy).1
  refine ks_codeAny_call_defAt (fd := ksFn "__init__" q (defArgs st) (defBody st) (defScope st) .none .none doc pm an (.ref cda) ct cc) (body := defBody st) (binds := (("self" : Str) :: ps).zip (Value.ref x :: us)) hroom (X _ _ ho) rfl hlim (codeRec_of X hcd) rfl hbind T.scn binK (fun h₁ hns hk₁ => ?_) T.scc T.scg T.sck
  have X₁ : K.In h₁ := X.keeps hk₁
  have hx₁ := hk₁ _ _ hx
  have hLx : s.heap.objs.size ≠ x := Nat.ne_of_gt (Heap.lt_size hx)
  have sz1 : s.heap.objs.size < h₁.objs.size := hns.lt
  generalize hm : (fun y => (List.reverse ((("self" : Str) :: ps).zip (Value.ref x :: us))).lookup y) = m at hns
  have key : ∀ (l1 : List Str) (l2 : List Value) (i : Nat) (y : Str) (u : Value), l1.Nodup → l1[i]? = some y → l2[i]? = some u → (List.reverse (l1.zip l2)).lookup y = some u := by
    intro l1
    induction l1 with
    | nil => intro l2 i y u _ h _; simp at h
    | cons a r ih =>
      intro l2 i y u nd h1 h2
      cases l2 with
      | nil => simp at h2
      | cons b l2 =>
        rw [List.zip_cons_cons, List.reverse_cons, List.lookup_append]
        cases i with
        | zero =>
          simp only [List.getElem?_cons_zero, Option.some.injEq] at h1 h2
          subst h1 h2
          have : (List.reverse (r.zip l2)).lookup a = none := by
            rw [List.lookup_eq_none_iff]
            intro p hp
            have hp' := List.mem_reverse.mp hp
            have := (List.of_mem_zip (show (p.1, p.2) ∈ r.zip l2 from hp')).1
            simp only [beq_eq_false_iff_ne, ne_eq, bne_iff_ne]
            intro e
            rw [e] at nd
            exact (List.nodup_cons.mp nd).1 this
          rw [this]
          simp [List.lookup]
        | succ i =>
          rw [ih l2 i y u (List.nodup_cons.mp nd).2 h1 h2]; rfl
  have mself : m "self" = some (.ref x) := by rw [← hm]; exact key _ _ 0 _ _ T.nd rfl rfl
  have mpar : ∀ (i : Nat) p, ps[i]? = some p → ∃ v u, vs[i]? = some v ∧ RelV v u ∧ m p = some u := fun i p hp => by
    have hi : i < vs.length := by rw [hlen]; exact (List.getElem?_eq_some_iff.mp hp).1
    obtain ⟨u, hu, ru⟩ := hv.get (List.getElem?_eq_getElem hi)
    refine ⟨_, u, List.getElem?_eq_getElem hi, ru, ?_⟩
    rw [← hm]
    exact key _ _ (i + 1) _ _ T.nd hp hu
  have hDget : h₁.get? C = some (excClassObj nm qn C N bs bm true sn sub ab col dd0 k0 k1 k2 k3 k5 "ValueError.__new__") := X₁ _ _ hC
  obtain ⟨pl, hev⟩ := hev s.heap.objs.size cda cc
  show _root_.PySem.wpAt _ (A.deeper (ksEnv q (defScope st) s.heap.objs.size fI (.ref cda) cc)) (.func (defBody st) (ksEnv q (defScope st) s.heap.objs.size fI (.ref cda) cc)) (execs (defBody st) (ksEnv q (defScope st) s.heap.objs.size fI (.ref cda) cc)) _ _ _
  generalize henv : ksEnv q (defScope st) s.heap.objs.size fI (.ref cda) cc = env at hev ⊢
  have e1 : env.scope = defScope st := by rw [← henv]
  have e2 : env.locals = s.heap.objs.size := by rw [← henv]
  have e3 : env.func = some fI := by rw [← henv]
  have e4 : env.code = .ref cda := by rw [← henv]
  have e5 : env.globals = mainGlobals := by rw [← henv]
  have e6 : env.builtins = builtinsNs := by rw [← henv]
  have e7 : env.cells.lookup ("__class__" : Str) = some cc := by rw [← henv]; rfl
  have kd : ∀ y, env.kindOf y = (defScope st).names.lookup y := fun y => by rw [← henv]; rfl
  have hkf : env.scope.kind = .function := by rw [e1]; exact T.sck
  generalize hbb : defBody st = body
  rw [hbb] at hbody
  have hbody2 : execs body env = execs (.Expr (.Call (.Attribute (.Call (.Name "super" p0) [] [] p1) "__init__" p2) [.Constant (.str msg) j p3] [] p4) p5 :: sts) env := by rw [hbody]
  rw [hbody2]
  refine ks_wpAt_execs_cons (ks_wpAt_Expr_any ?_ (by simp [interactive, hkf]) rfl)
  refine ks_wpAt_MethodCall (pl := pl) ?_ hev
  refine ks_wpAt_super_base ((kd _).trans T.scs) ((kd _).trans T.scf) (by decide) e3 (hk₁ _ _ (X _ _ ho)) rfl har e4 (X₁ _ _ hcode) rfl hcv (by simp) T.top ?_
  obtain ⟨mb, hB1, hB2⟩ := B
  refine ks_loadName_global hkf ((kd _).trans T.scs) (loadGlobal_builtin (by rw [e5]; exact G.keeps hk₁) hsup (by rw [e6]; exact hB1.keeps hk₁) ((hB2 _ (by decide)).trans (by decide +kernel)) ⟨rfl, ?_⟩)
  refine wpAny_loadName_free hkf ((kd _).trans T.scf) e7 ⟨_, X₁ _ _ hcell, rfl⟩ ?_
  rw [hself]
  refine wpAny_loadName_local hkf ((kd _).trans (T.scl _ List.mem_cons_self)) (by rw [e2]; exact hns) mself ?_
  refine ks_wpAny_isType_cls hDget rfl ⟨rfl, ?_⟩
  obtain ⟨hp0, g, d, tk, os⟩ := s
  refine ks_wpAny_call_super (ox := excO C t0) hDget rfl hx₁ rfl (fun c e => nomatch e) (looks_mroIn X₁ T.mro) (fun h₂ e₂ k₂ => ?_)
  have X₂ : K.In h₂ := X₁.keeps k₂
  have I₂ : InstAt h₂ x (excO C t0) C none := ⟨k₂ _ _ hx₁, rfl, rfl, trivial⟩
  have hsu := T.su
  unfold ks_superIn at hsu
  rw [hcl] at hsu
  refine kxs_getMethod kxs_ValueError e₂ (looks_opaque X₂ T.op) (l₀ := .ref C :: bm) ?_ rfl X₂ hsu (I₂.type.andThen (looks_subIn X₂ T.veC)) (ks_ne X₂ I₂ hcl) (by decide) ?_
  · exact fun A Q E s k q => wpAny_bind ((looks_clsIn X₂ hcl) A _ E s k (wpAny_pure q))
  have hu : (h₂.push (kxs_mw "ValueError.__init__" x)).get? h₂.objs.size = some (kxs_mw "ValueError.__init__" x) := Heap.get?_push_at rfl rfl
  have k₃ : ∀ b o, h₂.get? b = some o → (h₂.push (kxs_mw "ValueError.__init__" x)).get? b = some o := fun b o e => Heap.get?_push_of_some _ e
  show wpAny _ _ (callWith p4 (.ref h₂.objs.size) [] (backTo p4 (starEach [.Constant (.str msg) j p3] env)) []) _ _ _
  refine kxs_callWith (i := "ValueError.__init__") (x := x) rfl (evalArgs_plain ?_)
  show wpAny _ _ (spliced [(false, eval (.Constant (.str msg) j p3) env)]) _ _ _
  refine spliced_cons (Constant_str (spliced_nil ⟨hu, ?_⟩))
  refine call_mw T (X₂.keeps k₃) (k₃ _ _ (k₂ _ _ hx₁)) hu (by show 1 ≤ sizeLine; decide) fun h₄ t1 k₄ hx₄ => ?_
  show _root_.PySem.wpAt _ _ _ (execs sts env) _ _ _
  refine wpAt_of_wpAny ?_
  have keep4 : ∀ b o, b ≠ x → hp0.get? b = some o → h₄.get? b = some o := fun b o hb e => k₄ b o hb (k₃ _ _ (k₂ _ _ (hk₁ _ _ e)))
  obtain ⟨oL, esL, epL, hoL, hrL⟩ := id hns
  have hoL4 : h₄.get? hp0.objs.size = some oL := k₄ _ _ hLx (k₃ _ _ (k₂ _ _ hoL))
  have S0 : ErrAt hp0 h₄ x C hp0.objs.size m [] none := ⟨keep4, Nat.le_of_lt (Heap.lt_size hoL4), ⟨oL, esL, epL, hoL4, hrL⟩, ⟨t1, hx₄⟩, rfl⟩
  refine err_stores T (h0 := hp0) X hnx hLx mself mpar hkf e2 (fun y hy => (kd y).trans (T.scl y hy)) hdb hsts (fun _ z => z) (acc := []) (s := ⟨h₄, g, d, _, os⟩) S0 (by rw [List.length_nil]; omega) fun h' tk' dd' S' => ?_
  exact hq h' tk' dd' hp0.objs.size m hLx (Nat.le_refl _) S'
end
section
open PySem PySem.Spec PyProof.Rows
variable {X : Cx} {C fI : Addr} {st : Stmt} {q : Str} {ps : List Str} {fs : List (Str × Sum Nat Str)}
/-- what the making of such an error leaves: its class, its own dict (new), the fields -/
def errQ (C : Addr) (fs : List (Str × Sum Nat Str)) (vs : List V) (H1 : Hp) (Q : XK) : Prop := match fs with
  | [] => Q (.ref C) none H1
  | p :: r => ∀ d, H1 d = none → Q (.ref C) (some d) (upd H1 d (.xd (errF vs (p :: r) [])))
def tErr (C : Addr) (n : Nat) (fs : List (Str × Sum Nat Str)) (ta : TA) : L2.St → Hp → XK → Prop := fun σ H Q => ta σ H fun vs H1 => vs.length = n ∧ errQ C fs vs H1 Q
theorem errF_nil {vs : List V} : ∀ {fs : List (Str × Sum Nat Str)} {acc : List (Str × V)}, errF vs fs acc = [] → fs = [] ∧ acc = []
  | [], acc, e => ⟨rfl, e⟩
  | p :: r, acc, e => by
    obtain ⟨_, h⟩ := errF_nil (fs := r) (acc := (p.1, fldV vs p.2) :: acc) e
    cases h
theorem err_made (T : ErrC X.prog X.K C fI st q ps fs) {pins : List (Addr × Obj)} {σ : L2.St} {H1 : Hp} {s1 : Shared} {Q : XK} {vs : List V} {us : List Value} {k : Nat} (hsup : X.mg "super" = none) (hr : Room k X.A) (hfs : fs.length ≤ 90)
    (hdb : ∀ y ∈ (("self" : Str) :: ps), (y == ("__debug__" : Str)) = false) (I1 : Inv X pins σ H1 s1) (r : Vals vs us) (hl : vs.length = ps.length) (hz : us.length ≤ sizeLine)
    (q1 : errQ C fs vs H1 Q) :
    wpAny (model X.prog X.w) X.A (call (.ref C) us) (MkP X pins σ Q) X.xe s1 := by
  obtain ⟨nm, qn, N, bs, bm, sn, sub, ab, col, dd0, k0, k1, k2, k3, k5, hC, hbm⟩ := T.cls
  have hlim := I1.nolimit
  have KX := I1.kIn
  have G := I1.mod.glob.keeps I1.bk
  have B : ∃ mb, s1.heap.Ns builtinsNs mb ∧ ∀ y : Str, y ≠ "__name__" → mb y = bootBuiltins y := by
    obtain ⟨mb, b1, b2⟩ := I1.mod.blt
    exact ⟨mb, b1.keeps I1.bk, b2⟩
  obtain ⟨hp, g, dr, tk, os⟩ := s1
  have kk : ∀ b o, hp.get? b = some o → ((hp.push (PySem.W.kdv_tup us)).push (PySem.HandSPX.excO C hp.objs.size)).get? b = some o := fun b o e => Heap.get?_push_of_some _ (Heap.get?_push_of_some _ e)
  have hget : ((hp.push (PySem.W.kdv_tup us)).push (PySem.HandSPX.excO C hp.objs.size)).get? (hp.objs.size + 1) = some (PySem.HandSPX.excO C hp.objs.size) := by heap_get
  have hnx : X.K.lookup (hp.objs.size + 1) = none := by
    cases e : X.K.lookup (hp.objs.size + 1) with
    | none => rfl
    | some o =>
      have z : hp.get? (hp.objs.size + 1) = some o := KX _ _ e
      exact absurd (Nat.lt_of_succ_lt (Heap.lt_size z)) (Nat.lt_irrefl _)
  refine wpAny_call (PySem.HandSPX.call_own F.excBase_ValueError (fun Y => PySem.HandSPX.refsVE_contains Y bm hbm) (KX _ _ hC) (PySem.W.looks_findIn KX T.iC) (fun self => PySem.W.bind_fn KX self T.tC) hz ?_)
  have hdp := hr.dp
  refine err_init T (vs := vs) (mg := X.mg) (s := ⟨(hp.push (PySem.W.kdv_tup us)).push (PySem.HandSPX.excO C hp.objs.size), g, dr, tk, os⟩) (KX.keeps kk) (hlim.keeps kk) (G.keeps kk) hsup (let ⟨mb, b1, b2⟩ := B; ⟨mb, b1.keeps kk, b2⟩) hget hnx ?_ r hl hfs hdb fun h' tk' dd L m hLx hLz S => ?_
  · show X.A.depth + 1 < recursionLimit
    omega
  obtain ⟨kp, sz, hn, ⟨t1, hx⟩, hd⟩ := S
  have e2 : ((hp.push (PySem.W.kdv_tup us)).push (PySem.HandSPX.excO C hp.objs.size)).objs.size = hp.objs.size + 2 := by simp [Heap.size_push]
  have old0 : ∀ b o, hp.get? b = some o → h'.get? b = some o := fun b o e => kp b o (Nat.ne_of_lt (Nat.lt_succ_of_lt (Heap.lt_size e))) (kk b o e)
  obtain ⟨G', g1, g2⟩ := restrict h' fun b => decide (b ≠ hp.objs.size + 1)
  have gk : ∀ b, b ≠ hp.objs.size + 1 → G'.get? b = h'.get? b := fun b hb => g1 b (decide_eq_true hb)
  have ge : G'.get? (hp.objs.size + 1) = none := g2 _ (by simp)
  have old : ∀ b o, hp.get? b = some o → G'.get? b = some o := fun b o e => (gk b (Nat.ne_of_lt (Nat.lt_succ_of_lt (Heap.lt_size e)))).trans (old0 b o e)
  have sub2 : ∀ b o, G'.get? b = some o → h'.get? b = some o := fun b o e => by
    by_cases hb : b = hp.objs.size + 1
    · rw [hb, ge] at e; cases e
    · rw [← gk b hb]; exact e
  refine ⟨rfl, ?_⟩
  show MkP X pins σ Q (.ref (hp.objs.size + 1)) ⟨h', g, dr, tk', os⟩
  cases dd with
  | none =>
    have hd : errF vs fs [] = [] := hd
    obtain ⟨rfl, _⟩ := errF_nil hd
    have J : Inv X pins σ H1 ⟨G', g, dr, tk', os⟩ := I1.kept (t' := tk') old
    exact ⟨hp.objs.size + 1, _, _, ⟨G', g, dr, tk', os⟩, H1, .ref C, none, rfl, J, sub2, ge, hx, ⟨rfl, rfl⟩, rfl, rfl, I1.hok.fresh (Nat.le_succ _), rfl, I1.bare, raises_own T.exC T.tyC, q1⟩
  | some dx =>
    obtain ⟨d0, d1, d2, d3, mA, hns, rel⟩ := hd
    rw [e2] at d1
    have hdx : hp.objs.size ≤ dx := Nat.le_trans (Nat.le_add_right _ 2) d1
    have nd : H1 dx = none := I1.hok.fresh hdx
    have ob : ObjOk X.prog X.w (upd H1 dx (.xd (errF vs fs []))) G' dx (.xd (errF vs fs [])) := ⟨mA, hns.at (fun o q => (gk dx d2).trans q), rel⟩
    have J : Inv X pins σ (upd H1 dx (.xd (errF vs fs []))) ⟨G', g, dr, tk', os⟩ := I1.laid (t' := tk') old hdx ob
    refine ⟨hp.objs.size + 1, _, _, ⟨G', g, dr, tk', os⟩, _, .ref C, some dx, rfl, J, sub2, ge, hx, ⟨rfl, rfl⟩, rfl, rfl, ?_, rfl, I1.bare, raises_own T.exC T.tyC, ?_⟩
    · rw [upd_ne (Ne.symm d2)]
      exact I1.hok.fresh (Nat.le_succ _)
    · cases fs with
      | nil =>
        exact absurd rfl d0
      | cons p r => exact q1 dx nd
/-- C(e, ..) -/
theorem pmk_err {x : Str} {e : Expr} {es : List Expr} {ta : TA} {p pos : Pos} {k : Nat} (T : ErrC X.prog X.K C fI st q ps fs) (hm : X.mg x = some (.ref C)) (hsup : X.mg "super" = none) (hr : Room k X.A) (ha : PA X (e :: es) ta) (hg : Gl X x := by rfl)
    (hfs : fs.length ≤ 90 := by decide) (hps : ps.length ≤ 90 := by decide) (hdb : ∀ y ∈ (("self" : Str) :: ps), (y == ("__debug__" : Str)) = false := by decide) (hd : (x == ("__debug__" : Str)) = false := by decide)
    (he : starEach (e :: es) X.env = (false, eval e X.env) :: starEach es X.env := by rfl) (hpl : (backTo pos (starEach es X.env)).any (·.1) = false := by rfl) :
    PMk X (.Call (.Name x p) (e :: es) [] pos) (tErr C ps.length fs ta) := by
  intro pins s σ H Q I h
  refine wpAny_Call_Name_kw (ld_glob I hg hm ?_ hd)
  refine PySem.W.callWith_K (h₀ := X.base) I.ok.mod.kin T.kC (thn (ha.run pos pins s σ H _ I h) fun us s1 hh => ?_) he hpl
  obtain ⟨vs, H1, I1, r1, hl, q1⟩ := hh
  refine ⟨I1.kIn, ?_⟩
  exact err_made T hsup hr hfs hdb I1 r1 hl (by rw [List.nil_append, ← r1.length, hl, sizeLine_eq]; omega) q1
/-- C() -/
theorem pmk_err0 {x : Str} {p pos : Pos} {k : Nat} (T : ErrC X.prog X.K C fI st q [] fs) (hm : X.mg x = some (.ref C)) (hsup : X.mg "super" = none) (hr : Room k X.A) (hg : Gl X x := by rfl)
    (hfs : fs.length ≤ 90 := by decide) (hd : (x == ("__debug__" : Str)) = false := by decide) :
    PMk X (.Call (.Name x p) [] [] pos) (tErr C 0 fs tNil) := by
  intro pins s σ H Q I h
  refine wpAny_Call_Name_kw (ld_glob I hg hm ?_ hd)
  refine PySem.W.callWith_K0 I.kIn T.kC ?_
  obtain ⟨_, q1⟩ := h
  exact err_made T (vs := []) (us := []) hsup hr hfs (by decide) I .nil rfl (Nat.zero_le _) q1
end
/-! ### several except clauses, with or without a name -/
section
open PySem PySem.Spec PyProof.Rows
abbrev Cls1 := Value × Option Nat × (Addr → Value → Option Addr → TS)
def endsAs (i : Nat) (D : Ends) : Ends := { nx := fun σ' H' => D.nx (σ'.set i none) H', rt := D.rt, bk := fun σ' H' => D.bk (σ'.set i none) H', ct := fun σ' H' => D.ct (σ'.set i none) H' }
def wCl (D : Ends) (on : Option Nat) (ts : Addr → Value → Option Addr → TS) (a : Addr) (cls : Value) (d : Option Addr) (σ : L2.St) (H : Hp) : Prop := match on with
  | none => ts a cls d D σ H
  | some i => ts a cls d (endsAs i D) (σ.set i (some (.ref a))) H
/-- what the clauses wish of an exception of the body, one after the other -/
def wManyA (K : PySem.W.Frag) (Wout : WX) (D : Ends) : List Cls1 → WX
  | [] => Wout
  | (c, on, ts) :: r => fun cls d σ H => ∃ b, PySem.W.exmOne K cls c = some b ∧ (b = true → ∀ a, H a = none → wCl D on ts a cls d σ H) ∧ (b = false → wManyA K Wout D r cls d σ H)
inductive HdsA (X : Cx) : List ExceptHandler → List Cls1 → Prop
  | nil : HdsA X [] []
  | cons {x : Str} {c : Value} {ts : Addr → Value → Option Addr → TS} {b₀ : Stmt} {suite : List Stmt} {np pos' : Pos} {hds : List ExceptHandler} {l : List Cls1} (hc : Names X x c)
      (hsu : ∀ (a : Addr) (oe : Obj) (cls : Value) (d : Option Addr) (pn : List (Addr × Obj)), Zc cls d oe → (∃ vs, oe.data = .fields vs) → PSs (X.suite a ((a, oe) :: pn)) (b₀ :: suite) (ts a cls d)) (r : HdsA X hds l) :
      HdsA X (.ExceptHandler (some (.Name x np)) none (b₀ :: suite) pos' :: hds) ((c, none, ts) :: l)
  | consA {x n : Str} {c : Value} {i : Nat} {ts : Addr → Value → Option Addr → TS} {b₀ : Stmt} {suite : List Stmt} {np pos' : Pos} {hds : List ExceptHandler} {l : List Cls1} (hc : Names X x c) (hi : X.N[i]? = some n) (hln : X.env.kindOf n = some .local)
      (hsu : ∀ (a : Addr) (oe : Obj) (cls : Value) (d : Option Addr) (pn : List (Addr × Obj)), Zc cls d oe → (∃ vs, oe.data = .fields vs) → PSs (X.suite a ((a, oe) :: pn)) (b₀ :: suite) (ts a cls d)) (r : HdsA X hds l) :
      HdsA X (.ExceptHandler (some (.Name x np)) (some n) (b₀ :: suite) pos' :: hds) ((c, some i, ts) :: l)
variable {X : Cx} {body : List Stmt} {h₀ : ExceptHandler} {hds : List ExceptHandler} {l : List Cls1} {pos : Pos} {tb : WX → TS} {Wout : WX}
theorem ps_tryA (hs : X.stack = X.env :: X.outer) (hf : X.env.frame = some X.env.locals) (hN : X.N.Nodup) (tk : Takes X Wout)
    (hb : ∀ (W : WX) (pn : List (Addr × Obj)) (xe : Value → Shared → Prop), Takes (X.tr pn xe) W → PassesOwn (model X.prog X.w) X.A X.env xe → PSs (X.tr pn xe) body (tb W))
    (hh : HdsA X (h₀ :: hds) l) : PS X (.Try body (h₀ :: hds) [] [] pos) (fun D σ H => tb (wManyA X.K Wout D l) D σ H) := by
  refine ⟨fun pins s σ H D I h => ?_⟩
  have ok := I.ok
  have hfr : X.A.frames = some (X.env :: X.outer) := by rw [ok.frames, hs]
  refine wpAny_Try_except ?_
  refine wpAny_mono ((hb (wManyA X.K Wout D l) (X.pn ++ pins) (fun e s₁ => wpAny (model X.prog X.w) X.A (noteFrame e X.env) (fun _ s₂ => wpAny (model X.prog X.w) X.A (setFlight e none) (fun _ s₃ =>
    wpAny (model X.prog X.w) X.A (handleBy e X.env (h₀ :: hds)) (SP X pins D) X.xe s₃) X.xe s₂) X.xe s₁) (fun u s' xx => ?_) PassesOwn.looking).run [] s σ H D (I.toTry _) h) (fun f s1 hsp => ?_) (fun e s1 he => he)
  · -- the catch
    obtain ⟨a, B, sI, pins', σ', H', cls, d, rfl, J', nb, up, sky, na, os, ag, w⟩ := xx
    have J : Inv X pins σ' H' sI := J'.ofTry ok
    have sky' : Sky B (X.env :: X.outer) a (Zc cls d) X.env.locals s'.heap := by rw [← hs]; exact sky
    show wpAny (model X.prog X.w) X.A (noteFrame (.ref a) X.env) _ _ _
    refine Sky.land Zc.steady hfr hf sky' fun h3 fl3 up3 => ?_
    have J3 : Inv X pins σ' H' { s' with heap := h3 } := J.landed nb fl3.1 (up.trans up3) os ag
    obtain ⟨oe3, vs3, he3, hz3, hd3⟩ := fl3.there
    have notFr : ∀ {h : Heap} {o : Obj} {vs : Array Value}, h.FunFrames B (X.env :: X.outer) → h.get? a = some o → o.data = .fields vs → a ∉ frs (X.env :: X.outer) := fun {h o vs} ff e dd hm => by
      obtain ⟨_, o', e', hnf⟩ := ff.mem hm
      rw [e] at e'; cases e'
      exact hnf _ dd
    have nfr := notFr fl3.2.2.1 he3 hd3
    have nL : a ≠ X.env.locals := fun z => nfr (List.mem_filterMap.mpr ⟨X.env, List.mem_cons_self, by rw [hf, z]⟩)
    have nF : a ∉ X.fs := fun hm => by
      obtain ⟨e, he, q⟩ := List.mem_filterMap.mp hm
      exact nfr (List.mem_filterMap.mpr ⟨e, List.mem_cons_of_mem _ he, q⟩)
    have S3 := J3.suite he3 hd3 na nL nF
    have tst : ∀ {x : Str} {c : Value} {np : Pos}, Names X x c → ∀ {Q : Value → Shared → Prop} {E : Value → Shared → Prop}, Q c { s' with heap := h3 } → wpAny (model X.prog X.w) (X.A.mark (some (.ref a))) (eval (.Name x np) X.env) Q E { s' with heap := h3 } := fun {x c np} hc {Q E} q => by
      obtain ⟨hg, hdbg, hm | ⟨hm, hv, hnn⟩⟩ := hc
      · exact ld_glob (X := X.suite a ((a, oe3) :: (X.pn ++ pins))) S3 hg hm q hdbg
      · exact ld_blt (X := X.suite a ((a, oe3) :: (X.pn ++ pins))) S3 hg hm hv q hnn hdbg
    have LT : PySem.W.Looks (model X.prog X.w) h3 (typeOf (.ref a)) cls := fun A Q E s k q => wpAny_typeOf_ref (k _ _ he3) (by rw [hz3.1]; exact q)
    have go : ∀ {hds' : List ExceptHandler} {l' : List Cls1}, HdsA X hds' l' → wManyA X.K Wout D l' cls d σ' H' →
        wpAny (model X.prog X.w) X.A (handleBy (.ref a) X.env hds') (SP X pins D) X.xe { s' with heap := h3 } := by
      intro hds' l' hk
      induction hk with
      | nil =>
        intro w
        refine wpAny_handleBy_nil ?_
        obtain ⟨k1, k2, k3, oe, vs, T, oT, ts', he, hz, hd, h1, hr⟩ := id fl3
        unfold PySem.passOn
        refine wpAny_bind (wpAny_field he hd h1 ?_)
        rw [if_neg (show ¬ ((Value.ref T == Value.none) = true) from by simp)]
        have fin : wpAny (model X.prog X.w) X.A (setFlight (.ref a) X.env.frame) (fun _ s4 => wpAny (model X.prog X.w) X.A (throw (.ref a) : Sem Flow) (SP X pins D) X.xe s4) X.xe { s' with heap := h3 } := by
          rw [hf]
          refine HandSPX.setFlight_upZ fl3 fun h4 hh4 up4 => wpAny_throw (tk _ _ ?_)
          exact ⟨a, B, sI, pins, σ', H', cls, d, rfl, J, nb, (up.trans up3).trans up4, .inr (.inr (by rw [hs]; exact hh4)), na, os, ag, w⟩
        first
          | exact wpAny_bind (wpAny_pure (wpAny_bind fin))
          | exact wpAny_bind fin
      | @cons x c ts b₀ suite np pos' hds2 l2 hc hsu r ih =>
        intro w
        obtain ⟨b, hb1, hyes, hno⟩ := w
        refine wpAny_handleBy_cons (codeAny_handlers_test ?_) (by intro q; cases q)
        have LM := PySem.W.exm_one (M := model X.prog X.w) (J3.kIn) LT hb1
        refine tst hc (LM.here ?_)
        cases b with
        | true =>
          refine codeAny_handlers_suite ?_
          refine HandSPX.lands_againZ fl3 fun h4 fl4 up4 => ?_
          have J4 : Inv X pins σ' H' { s' with heap := h4 } := J.landed nb fl4.1 ((up.trans up3).trans up4) os ag
          obtain ⟨oe4, vs4, he4, hz4, hd4⟩ := fl4.there
          have S4 := J4.suite he4 hd4 na nL nF
          refine wpAny_mono ((hsu a oe4 cls d (X.pn ++ pins) hz4 ⟨_, hd4⟩).run [] _ _ H' _ S4 (hyes rfl a na)) (fun f s6 hsp => ?_) (fun _ _ z => False.elim z)
          cases f with
          | next =>
            obtain ⟨σ6, H6, S6, q6⟩ := hsp
            exact ⟨_, _, S6.unsuite ok, q6⟩
          | brk =>
            obtain ⟨σ6, H6, S6, q6⟩ := hsp
            exact ⟨_, _, S6.unsuite ok, q6⟩
          | cont =>
            obtain ⟨σ6, H6, S6, q6⟩ := hsp
            exact ⟨_, _, S6.unsuite ok, q6⟩
          | ret u =>
            obtain ⟨v6, σ6, H6, S6, r6, q6⟩ := hsp
            exact ⟨_, _, _, S6.unsuite ok, r6, q6⟩
        | false =>
          show wpAny _ X.A (handleBy (.ref a) X.env hds2) _ _ _
          exact ih (hno rfl)
      | @consA x n c i ts b₀ suite np pos' hds2 l2 hc hi hln hsu r ih =>
        intro w
        obtain ⟨b, hb1, hyes, hno⟩ := w
        have hloc : Loc X.env.scope n := .inl hln
        refine wpAny_handleBy_cons (codeAny_handlers_test ?_) (by intro q; cases q)
        have LM := PySem.W.exm_one (M := model X.prog X.w) (J3.kIn) LT hb1
        refine tst hc (LM.here ?_)
        cases b with
        | true =>
          refine codeAny_handlers_suite_as ?_
          refine HandSPX.lands_againZ fl3 fun h4 fl4 up4 => ?_
          have J4 : Inv X pins σ' H' { s' with heap := h4 } := J.landed nb fl4.1 ((up.trans up3).trans up4) os ag
          obtain ⟨oe4, vs4, he4, hz4, hd4⟩ := fl4.there
          have S4 := J4.suite he4 hd4 na nL nF
          refine store_ok (X := X.suite a ((a, oe4) :: (X.pn ++ pins))) (v := .ref a) S4 hN hi hloc rfl (fun s5 S5 => ?_) (.inr hln)
          refine wpAny_mono ((hsu a oe4 cls d (X.pn ++ pins) hz4 ⟨_, hd4⟩).run [] s5 _ H' _ S5 (hyes rfl a na)) (fun f s6 hsp => ?_) (fun _ _ z => False.elim z)
          have end_ : ∀ {σ6 : L2.St} {H6 : Hp} {Q : Shared → Prop}, Inv (X.suite a ((a, oe4) :: (X.pn ++ pins))) [] σ6 H6 s6 → (∀ s7, Inv X pins (σ6.set i none) H6 s7 → Q s7) →
              wpAny (model X.prog X.w) X.A (do bindName X.env n .none; unbindBehindTheSuite X.env n pos') (fun _ s7 => Q s7) X.xe s6 := fun {σ6 H6 Q} S6 hq => gone_ok (S6.unsuite ok) hN hi hln hq
          cases f with
          | next =>
            obtain ⟨σ6, H6, S6, q6⟩ := hsp
            exact end_ S6 fun s7 J7 => ⟨_, _, J7, q6⟩
          | brk =>
            obtain ⟨σ6, H6, S6, q6⟩ := hsp
            exact end_ S6 fun s7 J7 => ⟨_, _, J7, q6⟩
          | cont =>
            obtain ⟨σ6, H6, S6, q6⟩ := hsp
            exact end_ S6 fun s7 J7 => ⟨_, _, J7, q6⟩
          | ret u =>
            obtain ⟨v6, σ6, H6, S6, r6, q6⟩ := hsp
            exact end_ S6 fun s7 J7 => ⟨_, _, _, J7, r6, q6⟩
        | false =>
          show wpAny _ X.A (handleBy (.ref a) X.env hds2) _ _ _
          exact ih (hno rfl)
    exact go hh w
  · cases f with
    | next =>
      obtain ⟨σ', H', J', q⟩ := hsp
      exact wpAny_execs_nil ⟨σ', H', J'.ofTry ok, q⟩
    | brk =>
      obtain ⟨σ', H', J', q⟩ := hsp
      exact ⟨σ', H', J'.ofTry ok, q⟩
    | cont =>
      obtain ⟨σ', H', J', q⟩ := hsp
      exact ⟨σ', H', J'.ofTry ok, q⟩
    | ret u =>
      obtain ⟨v, σ', H', J', r, q⟩ := hsp
      exact ⟨v, σ', H', J'.ofTry ok, r, q⟩
/-! ### o.m(e, ..) with a wish by the slots, defaults, keywords -/
variable {CX : CXT} {k : Nat} {f C : Addr} {fd : FuncData} {ps ks : List Str} {sp : Sp} {dvs : List V} {ds : List Value} {E : L2.St → XK} {x m : Str} {p apos : Pos} {e o : Expr} {es : List Expr} {kws : List Keyword} {ta : TE} {t tk : TA}
def tMethS (C : Addr) (m : Str) (sp : Sp) (dvs : List V) (E : L2.St → XK) (to : TE) (ta : TA) : TE := fun σ H Q => to σ H fun x H1 => ∃ a dx fs, x = .ref a ∧ H1 a = some (.ins C dx fs) ∧ fs.lookup m = none ∧ ta σ H1 fun vs H2 => sp (.ref a :: (vs ++ dvs)) H2 Q (E σ)
theorem pe_methSD {pl : Sem Bool} (he : PE X o ta) (c : Cls X.K C) (hm : Meth X.K C m f) (F : FnOk X.prog X.w X.K X.mg X.base CX k f fd ps sp) (hr : Room k X.A) (hb : Binds X.K fd ps ds) (hd : Vals dvs ds) (hx : ∀ σ, PassesAt CX X σ (E σ)) (ha : PA X (e :: es) t)
    (hst : starEach (e :: es) X.env = (false, eval e X.env) :: starEach es X.env := by rfl) (hpl : (backTo pos (starEach es X.env)).any (·.1) = false := by rfl)
    (ht : eval (.Call (.Attribute o m apos) (e :: es) [] pos) X.env = (do
      let ov ← eval o X.env
      standAt apos.atName
      let (f, first) ← holding [ov] (getMethod ov m pl)
      callWith pos f first (backTo pos (starEach (e :: es) X.env)) (backToKw pos (keywordEach [] X.env))) := by rfl) :
    PE X (.Call (.Attribute o m apos) (e :: es) [] pos) (tMethS C m sp dvs E ta t) := by
  refine ⟨fun pins s σ H Q I h => ?_⟩
  refine PySem.W.methodCall_KW (pl := pl) (thn (he.run pins s σ H _ I h) fun u s1 ⟨x, H1, I1, rx, a, dx, fs, ex, ea, l, q⟩ => ?_) ht
  subst ex
  obtain rfl : u = Value.ref a := rx
  refine getmeth_ok I1 ea c hm l ?_
  refine PySem.W.callWith_K (first := [.ref a]) (h₀ := X.base) I.ok.mod.kin hm.kp (thn (ha.run pos pins s1 σ H1 _ I1 q) fun us s2 ⟨vs, H2, I2, r, q2⟩ => ⟨I2.kIn, ?_⟩) hst hpl
  exact run_fnSD (us := .ref a :: us) (vs := .ref a :: vs) F hr hb hd (hx σ) I2 (.cons rfl r) q2
theorem pe_methSD0 {pl : Sem Bool} (he : PE X o ta) (c : Cls X.K C) (hm : Meth X.K C m f) (F : FnOk X.prog X.w X.K X.mg X.base CX k f fd ps sp) (hr : Room k X.A) (hb : Binds X.K fd ps ds) (hd : Vals dvs ds) (hx : ∀ σ, PassesAt CX X σ (E σ))
    (ht : eval (.Call (.Attribute o m apos) [] [] pos) X.env = (do
      let ov ← eval o X.env
      standAt apos.atName
      let (f, first) ← holding [ov] (getMethod ov m pl)
      callWith pos f first (backTo pos (starEach [] X.env)) (backToKw pos (keywordEach [] X.env))) := by rfl) :
    PE X (.Call (.Attribute o m apos) [] [] pos) (tMethS C m sp dvs E ta tNil) := by
  refine ⟨fun pins s σ H Q I h => ?_⟩
  refine PySem.W.methodCall_KW (pl := pl) (thn (he.run pins s σ H _ I h) fun u s1 ⟨x, H1, I1, rx, a, dx, fs, ex, ea, l, q⟩ => ?_) ht
  subst ex
  obtain rfl : u = Value.ref a := rx
  refine getmeth_ok I1 ea c hm l ?_
  exact PySem.W.callWith_K0 (first := [.ref a]) I1.kIn hm.kp (run_fnSD (us := [.ref a]) (vs := [.ref a]) F hr hb hd (hx σ) I1 (.cons rfl .nil) q)
end
/-! ### defs under which repr is asked: no guard is up -/
section
open PySem PySem.Spec PyProof.Rows
structure FnG (P : Program) (w : World) (K : PySem.W.Frag) (mg : Str → Option Value) (base : Heap) (CX : CXT) (k : Nat) (f : Addr) (fd : FuncData) (ps : List Str) (sp : Sp) : Prop where
  len : ∀ vs H Q E, sp vs H Q E → vs.length = ps.length
  run : ∀ (A : Around) (outer : List Env) (s : Shared) (H : Hp) (args : Args) (us : List Value) (vs : List V) (Q : VK) (E : XK), Room k A → A.guards = some [] → Env0 P w K mg base A outer s H → BindsTo s fd args (ps.zip us) → Vals vs us → sp vs H Q E →
    codeAny (model P w) A (.call (.ref f) args) (CR CX outer P w H s Q E) s
theorem FnG.of {P : Program} {w : World} {K : PySem.W.Frag} {mg : Str → Option Value} {base : Heap} {CX : CXT} {k : Nat} {f : Addr} {fd : FuncData} {ps : List Str} {sp : Sp} (F : FnOk P w K mg base CX k f fd ps sp) : FnG P w K mg base CX k f fd ps sp :=
  ⟨F.len, fun A outer s H args us vs Q E hr _ => F.run A outer s H args us vs Q E hr⟩
theorem FnG.mono {P : Program} {w : World} {K : PySem.W.Frag} {mg : Str → Option Value} {base : Heap} {CX : CXT} {j k : Nat} {f : Addr} {fd : FuncData} {ps : List Str} {sp : Sp} (F : FnG P w K mg base CX j f fd ps sp) (h : j ≤ k) : FnG P w K mg base CX k f fd ps sp :=
  ⟨F.len, fun A outer s H args us vs Q E hr => F.run A outer s H args us vs Q E (hr.mono h)⟩
theorem fn_ofG {CX : CXT} {P : Program} {w : World} {K : PySem.W.Frag} {mg : Str → Option Value} {base : Heap} {k : Nat} {f : Addr} {name qual : Str} {params : Arguments} {body : List Stmt} {scope : Scope} {dV kV doc pm cdv ct oc : Value} {an od : Option Addr}
    {osl : Array (Option Value)} {N ps : List Str} {sp : Sp} (lk : K.lookup f = some ⟨oc, od, .func (PySem.W.fnOf name qual params body scope dV kV doc pm an cdv ct), osl⟩) (hcd : PySem.W.codeIn K cdv qual = true) (S : FnScope N ps scope)
    (len : ∀ vs H Q E, sp vs H Q E → vs.length = ps.length)
    (hbody : ∀ (A : Around) (outer : List Env) (s : Shared) (H : Hp) (vs : List V) (Q : VK) (E : XK), Room k (A.deeper (envOfC qual scope s.heap.objs.size f cdv)) → A.guards = some [] → sp vs H Q E →
      ∃ t, PSs (cxOf CX P w K mg base N qual scope f cdv A outer s H E) body t ∧ t { nx := fun _ H' => Q .non H', rt := Q } (start N vs) H) :
    FnG P w K mg base CX (k + 1) f (PySem.W.fnOf name qual params body scope dV kV doc pm an cdv ct) ps sp := by
  refine ⟨len, fun A outer s H args us vs Q E hr hg e0 hb r hsp => ?_⟩
  have hl := len _ _ _ _ hsp
  have KX : K.In s.heap := e0.mod.kin.keeps fun b o e => (e0.bs b o e).1
  have lim : s.heap.NoLimit := e0.mod.nolimit.keeps fun b o e => (e0.bs b o e).1
  have hkind : ∀ y ∈ ps.zip us, scope.names.lookup y.1 = some .local ∨ (scope.names.lookup y.1 = some .cell ∧ ((cellsFrom (s.heap.objs.size + 1) scope.names []).lookup y.1).isSome = true) := fun ⟨n, v⟩ hy => by
    rcases S.par n (List.of_mem_zip hy).1 with q | q
    · exact .inl q
    · exact .inr ⟨q, PySem.W.cellsFrom_some _ _ _ (.inl q)⟩
  refine codeAny_call_function hr.depth (KX _ _ lk) rfl S.co S.gen rfl (PySem.W.codeRec_of KX hcd) (hb _ _ _ _ ?_)
  refine wpAny_newFunctionEnv_cells S.kind hkind fun env he s1 x => ?_
  subst he
  refine ⟨lim.keeps x.toInCall.keep, codeAny_func ?_⟩
  obtain ⟨t, ht, hq⟩ := hbody A outer s H vs Q E (hr.deeper _) hg hsp
  have I : Inv (cxOf CX P w K mg base N qual scope f cdv A outer s H E) [] (start N vs) H s1 := inv_start S hr.hd e0 hl r x
  refine wpAny_mono (ht.run [] s1 (start N vs) H _ I hq) (fun fl s' hs => ?_) fun e s' hs => hs
  have fin : ∀ {σ' : L2.St} {H' : Hp} {v : V} {u : Value}, Inv (cxOf CX P w K mg base N qual scope f cdv A outer s H E) [] σ' H' s' → RelV v u → Q v H' → CE outer P w H s Q u s' :=
    fun {σ' H' v u} J rv q => ⟨v, H', J.os, J.bare, J.base, J.hok, rv, q⟩
  cases fl with
  | ret u =>
    obtain ⟨v, σ', H', J, rv, q⟩ := hs
    exact fin J rv q
  | next =>
    obtain ⟨σ', H', J, q⟩ := hs
    exact fin (v := V.non) (u := Value.none) J rfl q
  | brk =>
    obtain ⟨_, _, _, q⟩ := hs
    exact False.elim q
  | cont =>
    obtain ⟨_, _, _, q⟩ := hs
    exact False.elim q
theorem okG {P : Program} {w : World} {K : PySem.W.Frag} {mg : Str → Option Value} {base : Heap} {x qual : Str} {st : Stmt} {f : Addr} {fd : FuncData} {N ps : List Str} {k : Nat} {sp : Sp} (F : L2.Fun K x qual st f fd) (S : FnScope N ps (defScope st)) (len : ∀ vs H Q E, sp vs H Q E → vs.length = ps.length)
    (hbody : ∀ (cdv : Value) (A : Around) (outer : List Env) (s : Shared) (H : Hp) (vs : List V) (Q : VK) (E : XK), Room k (A.deeper (envOfC qual (defScope st) s.heap.objs.size f cdv)) → A.guards = some [] → sp vs H Q E →
      ∃ t, PSs (cxOf CX0 P w K mg base N qual (defScope st) f cdv A outer s H E).nox (defBody st) t ∧ t { nx := fun _ H' => Q .non H', rt := Q } (start N vs) H) : FnG P w K mg base CX0 (k + 1) f fd ps sp := by
  obtain ⟨oc, od, kV, doc, pm, an, cdv, ct, osl, rfl, lk, hcd⟩ := F.ex
  refine fn_ofG lk hcd S len fun A outer s H vs Q E hr hg hsp => ?_
  obtain ⟨t, h, q⟩ := hbody cdv A outer s H vs Q E hr hg hsp
  exact ⟨t, h.nox, q⟩
theorem okGX {P : Program} {w : World} {K : PySem.W.Frag} {mg : Str → Option Value} {base : Heap} {x qual : Str} {st : Stmt} {f : Addr} {fd : FuncData} {N ps : List Str} {k : Nat} {sp : Sp} (F : L2.Fun K x qual st f fd) (S : FnScope N ps (defScope st)) (len : ∀ vs H Q E, sp vs H Q E → vs.length = ps.length)
    (hbody : ∀ (cdv : Value) (A : Around) (outer : List Env) (s : Shared) (H : Hp) (vs : List V) (Q : VK) (E : XK), Room k (A.deeper (envOfC qual (defScope st) s.heap.objs.size f cdv)) → A.guards = some [] → sp vs H Q E →
      ∃ t, PSs (cxOf (L2.CX P w) P w K mg base N qual (defScope st) f cdv A outer s H E) (defBody st) t ∧ t { nx := fun _ H' => Q .non H', rt := Q } (start N vs) H) : FnG P w K mg base (L2.CX P w) (k + 1) f fd ps sp := by
  obtain ⟨oc, od, kV, doc, pm, an, cdv, ct, osl, rfl, lk, hcd⟩ := F.ex
  exact fn_ofG lk hcd S len fun A outer s H vs Q E hr hg hsp => hbody cdv A outer s H vs Q E hr hg hsp
section
variable {X : Cx} {CX : CXT} {k : Nat} {f C : Addr} {fd : FuncData} {ps : List Str} {sp : Sp} {dvs : List V} {ds : List Value} {E : XK} {x m : Str} {p pos apos : Pos} {e o : Expr} {es : List Expr} {ta : TE} {t : TA}
theorem run_fnG {pins : List (Addr × Obj)} {σ : L2.St} {H : Hp} {s : Shared} {Q : VK} {us : List Value} {vs : List V} (F : FnG X.prog X.w X.K X.mg X.base CX k f fd ps sp) (hr : Room k X.A) (hgd : X.A.guards = some []) (hb : Binds X.K fd ps ds) (hd : Vals dvs ds) (hx : Passes CX X E)
    (I : Inv X pins σ H s) (r : Vals vs us) (h : sp (vs ++ dvs) H Q E) : wpAny (model X.prog X.w) X.A (call (.ref f) us) (EP X pins σ Q) X.xe s := by
  have r2 : Vals (vs ++ dvs) (us ++ ds) := r.append hd
  have hl : (us ++ ds).length = ps.length := by rw [← r2.length]; exact F.len _ _ _ _ h
  refine wpAny_call (codeAny_mono (F.run X.A X.stack s H ⟨us, []⟩ (us ++ ds) (vs ++ dvs) Q E hr hgd I.env0 (hb s us I.kIn hl) r2 h) fun r s' hq => ?_)
  cases r with
  | error e => exact hx pins σ H s e s' I hq
  | ok fl =>
    cases fl with
    | ret u => exact I.after hq
    | next => exact False.elim hq
    | brk => exact False.elim hq
    | cont => exact False.elim hq
theorem pe_callG (F : FnG X.prog X.w X.K X.mg X.base CX k f fd ps sp) (hr : Room k X.A) (hgd : X.A.guards = some []) (hg : Gl X x) (hm : X.mg x = some (.ref f)) (hk : PySem.W.keepIn X.K (.ref f) = true) (hb : Binds X.K fd ps ds) (hd : Vals dvs ds) (hx : Passes CX X E)
    (ha : PA X (e :: es) t) (hdb : (x == ("__debug__" : Str)) = false := by decide) (he : starEach (e :: es) X.env = (false, eval e X.env) :: starEach es X.env := by rfl) (hpl : (backTo pos (starEach es X.env)).any (·.1) = false := by rfl) :
    PE X (.Call (.Name x p) (e :: es) [] pos) (tCall sp dvs E t) := by
  refine ⟨fun pins s σ H Q I h => ?_⟩
  refine wpAny_Call_Name_kw (ld_glob I hg hm ?_ hdb)
  refine PySem.W.callWith_K (h₀ := X.base) I.ok.mod.kin hk (thn (ha.run pos pins s σ H _ I h) fun us s1 ⟨vs, H1, I1, r, q⟩ => ⟨I1.kIn, ?_⟩) he hpl
  exact run_fnG F hr hgd hb hd hx I1 r q
/-- repr of data -/
theorem call_reprD (hgd : X.A.guards = some []) (hu : X.A.units + 64 < cLine) : CallR X (.builtin "repr") (fun xs H Q => ∃ (x : V) (dt : PyData), xs = [x] ∧ Dp X.K H x dt ∧ dt.showable = true ∧ dt.hasDict = false ∧ dt.depth ≤ 60 ∧ dt.shown.length ≤ sizeLine ∧ Q (.str dt.shown) H) := by
  intro pins s σ H xs us Q I r h
  obtain ⟨x, dt, rfl, hD, h1, h2, h3, h4, q⟩ := h
  obtain ⟨u, rfl, ru⟩ := vals1 r
  obtain ⟨as, hr⟩ := Dp.reads I dt x u hD ru
  cases hD with
  | non =>
    cases (show u = Value.none from ru)
    exact PySem.P.repr_of_none ⟨.str _, H, I.tok _, ⟨_, rfl⟩, q⟩
  | bl b =>
    cases (show u = Value.bool b from ru)
    exact PySem.P.repr_of_bool ⟨.str _, H, I.tok _, ⟨_, rfl⟩, q⟩
  | int i =>
    obtain ⟨t, rfl⟩ := ru
    exact PySem.P.repr_of_int (of_decide_eq_true h1) ⟨.str _, H, I.tok _, ⟨_, rfl⟩, q⟩
  | str z =>
    obtain ⟨t, rfl⟩ := ru
    exact PySem.P.repr_of_str ⟨.str _, H, I.tok _, ⟨_, rfl⟩, q⟩ h4
  | lst hl ha =>
    cases ru
    refine repr_of_reads' hr h1 (fun z => by rw [h2] at z; cases z) hgd (by omega) (fun _ _ e => e) (fun h' u tk hk => ?_) h4
    exact ⟨.str _, H, (I.kept (t' := tk) hk), ⟨_, rfl⟩, q⟩
  | tup hl ha =>
    cases ru
    refine repr_of_reads' hr h1 (fun z => by rw [h2] at z; cases z) hgd (by omega) (fun _ _ e => e) (fun h' u tk hk => ?_) h4
    exact ⟨.str _, H, (I.kept (t' := tk) hk), ⟨_, rfl⟩, q⟩
end
end
/-! ### the law is called: no guard is up -/
section
open PySem PySem.Spec PyProof.Rows L2
theorem law_callG {P : Program} {w : World} {K : PySem.W.Frag} {mg mb : Str → Option Value} {CX : CXT} {k : Nat} {fa a : Addr} {fd : FuncData} {x : Str} {sp : Sp} {s₁ : Shared} {vs : List Value} {ns : List Int}
    (KX : K.In s₁.heap) (hns : s₁.heap.Ns mainGlobals mg) (hb : s₁.heap.Ns builtinsNs mb) (hbb : ∀ x : Str, x ≠ "__name__" → mb x = bootBuiltins x) (hlim : s₁.heap.NoLimit) (hg : s₁.gens = #[])
    (ha : s₁.heap.get? a = some { cls := .type "list", data := .seq vs.toArray }) (hi : IntsAre vs ns) (hl : ns.length ≤ sizeLine) (hr : Room k callerA)
    (F : ∀ base : Heap, K.In base → base.Ns mainGlobals mg → FnG P w K mg base CX k fa fd [x] sp) (hbind : ∀ (s : Shared) (u : Value), BindsTo s fd ⟨[u], []⟩ [(x, u)])
    (hsp : ∀ H : Hp, Only H → SqL K H a (ns.map V.int) → sp [.ref a] H (fun v _ => v = .bl true) fun _ _ _ => False)
    (hCX : ∀ H e s', CX [] H s₁ (fun _ _ _ => False) e s' → False) :
    codeAny (model P w) callerA (.call (.ref fa) ⟨[.ref a], []⟩) (fun r s' => r = .ok (.ret (.bool true)) ∧ OldK s₁.heap s'.heap ∧ s'.os = s₁.os ∧ AllBare s'.gens) s₁ := by
  have rv := vals_ints hi
  have lenV := hi.length
  -- from an abstract heap in which nothing but the script may be tracked
  have core : ∀ H : Hp, Only H → SqL K H a (ns.map V.int) → HOk P w H s₁.heap → (∀ b, H b ≠ none → b = a) → (H a ≠ none → K.lookup a = none) →
      codeAny (model P w) callerA (.call (.ref fa) ⟨[.ref a], []⟩) (fun r s' => r = .ok (.ret (.bool true)) ∧ OldK s₁.heap s'.heap ∧ s'.os = s₁.os ∧ AllBare s'.gens) s₁ := by
    intro H hO hS hok hA hK
    have base_of : ∀ {b : Addr} {o : Obj}, s₁.heap.get? b = some o → H b = none → (hidT s₁.heap H).get? b = some o := fun e n => hidT_get e n
    have noA : ∀ {b : Addr} {o : Obj} {es : Array DictEntry} {ep : Nat}, s₁.heap.get? b = some o → o.data = .dict es ep → H b = none := fun {b o es ep} e d => by
      cases q : H b with
      | none => rfl
      | some u =>
        have e' : b = a := hA b (by rw [q]; simp)
        subst e'
        rw [ha] at e; cases e
        have d' : Data.seq vs.toArray _ = Data.dict es ep := d
        cases d'
    have nsK : ∀ {b : Addr} {m : Str → Option Value}, s₁.heap.Ns b m → (hidT s₁.heap H).Ns b m := fun {b m} ⟨o, es, ep, e, d, r⟩ => ⟨o, es, ep, base_of e (noA e d), d, r⟩
    have hKb : K.In (hidT s₁.heap H) := fun b o e => base_of (KX b o e) (by
      cases q : H b with
      | none => rfl
      | some u =>
        have e' : b = a := hA b (by rw [q]; simp)
        subst e'
        rw [hK (by rw [q]; simp)] at e; cases e)
    have hM : Mod K mg (hidT s₁.heap H) := ⟨hKb, nsK hns, ⟨mb, nsK hb, hbb⟩, let ⟨mc, h1, h2⟩ := hlim; ⟨mc, nsK h1, h2⟩⟩
    have e0 : Env0 P w K mg (hidT s₁.heap H) callerA [] s₁ H := ⟨rfl, hM, fun b o e => of_hidT e, Nat.le_of_eq (hidT_size _ _), trivial, fun b hb => absurd (show b ∈ ([] : List Addr) from hb) (by simp), hok, .of_eq hg⟩
    refine codeAny_mono ((F _ hKb (nsK hns)).run callerA [] s₁ H ⟨[.ref a], []⟩ [.ref a] [.ref a] _ _ hr rfl e0 (hbind s₁ (.ref a)) (.cons rfl .nil) (hsp H hO hS)) fun r s' h => ?_
    cases r with
    | error e => exact (hCX H e s' h).elim
    | ok fl =>
      cases fl with
      | next => exact False.elim h
      | brk => exact False.elim h
      | cont => exact False.elim h
      | ret u =>
        obtain ⟨v, H', os, bare, un, hok', r', q⟩ := h
        have q' : v = .bl true := q
        subst q'
        obtain rfl : u = Value.bool true := r'
        refine ⟨rfl, OldK.of_keep fun b o e => ?_, os, bare⟩
        cases q : H b with
        | none => exact un.keep b o e q (by intro z; exact absurd (show b ∈ ([] : List Addr) from z) (by simp)) (by simp)
        | some u =>
          rcases hO b with z | ⟨ob, xs, z⟩
          · rw [q] at z; cases z
          · have z2 := un.frzs b ob _ z
            obtain ⟨e1, _⟩ := hok b _ z
            obtain ⟨e2, _⟩ := hok' b _ z2
            rw [e] at e1; cases e1
            exact e2
  cases hk : K.lookup a with
  | some o =>
    -- the script is one of the module's own objects
    have e := KX a o hk
    rw [ha] at e
    cases e
    refine core (fun _ => none) (fun _ => .inl rfl) (.inr ⟨_, vs.toArray, _, hk, rfl, rfl, rfl, by rw [List.size_toArray, lenV]; exact hl, by simpa using rv⟩) (fun b u z => by have z' : (none : Option HO) = some u := z; cases z') (fun b z => absurd rfl z) fun z => absurd rfl z
  | none =>
    refine core (fun b => if b = a then some (.frz { cls := .type "list", data := .seq vs.toArray } (.lst (ns.map V.int))) else none) (fun b => ?_) (.inl (.inr ⟨{ cls := .type "list", data := .seq vs.toArray }, if_pos rfl⟩)) (fun b u z => ?_) (fun b z => ?_) fun _ => hk
    · by_cases hb : b = a
      · exact .inr ⟨_, _, if_pos hb⟩
      · exact .inl (if_neg hb)
    · by_cases hb : b = a
      · have z' := (if_pos hb).symm.trans z
        cases z'
        subst hb
        exact ⟨ha, by rw [List.length_map]; exact hl, vs, _, rv, ha⟩
      · have z' := (if_neg hb).symm.trans z
        cases z'
    · by_cases hb : b = a
      · exact hb
      · exact absurd (if_neg hb) z
theorem walk_ofBG {l : PySem.W.OpenLaw} {n k : Nat} {q : Program} {loose : List Str} {XP : (Str → Option Value) → Heap → Prop} {YP : World → Heap → Prop} {d : DefRec} {K : Params → PySem.W.Frag} {CX : World → CXT} {sp : World → Sp} {x : Str}
    (hn : l.most = some n) (hn2 : n ≤ sizeLine) (hdf : d.params.defaults = []) (hr : Room k callerA)
    (hY : ∀ (w : World) (h : Heap), YP w h → (K w.params).In h)
    (F : ∀ (w : World) (mg : Str → Option Value) (fa : Addr) (h : Heap), (K w.params).In h → h.Ns mainGlobals mg → mg d.name = some (.ref fa) →
      ∃ fd : FuncData, (∀ (s : Shared) (u : Value), BindsTo s fd ⟨[u], []⟩ [(x, u)]) ∧
        ∀ base : Heap, (K w.params).In base → base.Ns mainGlobals mg → FnG l.prog w (K w.params) mg base (CX w) k fa fd [x] (sp w))
    (hsp : ∀ (w : World) (H : Hp) (a : Addr) (ns : List Int), ns.length ≤ n → (∀ z ∈ ns, Builtin.Int.intBits z ≤ 1048576) → Only H → SqL (K w.params) H a (ns.map V.int) → sp w [.ref a] H (fun v _ => v = .bl true) fun _ _ _ => False)
    (hCX : ∀ (w : World) (H : Hp) (s : Shared) (e : Value) (s' : Shared), CX w [] H s (fun _ _ _ => False) e s' → False) :
    PySem.W.WalkO q loose XP YP l.row.toRowW d [] (fun f vs => PySem.call f vs) := by
  refine Att.attach_callB hn hdf fun w s₀ s₁ mg mb fa o pm cd doc a vs ns G Y ho hd hcd hmg hobj hints hlen hbits hg => ?_
  have KX := hY w _ Y
  obtain ⟨fd, hb, hF⟩ := F w mg fa _ KX G.T.g hmg
  exact law_callG KX G.T.g G.T.b G.T.builtins G.T.nolimit hg hobj hints (Nat.le_trans hlen hn2) hr hF hb (fun H hO hS => hsp w H a ns hlen hbits hO hS) fun H e s' => hCX w H s₁ e s'
end
/-! ### what is never reached -/
section
variable {X : Cx}
theorem ps_no {st : Stmt} : PS X st (fun _ _ _ => False) := ⟨fun _ _ _ _ _ _ h => h.elim⟩
theorem xfc {P : Program} {K : PySem.W.Frag} {C fI : Addr} {st : Stmt} {q : Str} {ps : List Str} {fs : List (Str × Sum Nat Str)} (T : ErrC P K C fI st q ps fs) : XfC K C := ⟨T.ga, T.gg, T.exC, T.hdC⟩
end
theorem for_nil {K : PySem.W.Frag} {a : Addr} {g : TG} {tb : TS} {D : Ends} {σ : L2.St} {H : Hp} (hl : SqL K H a []) (hd : D.nx σ H) :
    ∃ W : Nat → Nat → L2.St → Hp → Prop, (∃ m, W 0 m σ H) ∧ ∀ i m σ H, W i m σ H →
      ((Itl K a).stop i H ∧ D.nx σ H) ∨ ((Itl K a).go i H ∧ ∃ N : L2.St → Hp → Prop, (∀ σ' H', N σ' H' → ∃ m', m' < m ∧ W (i + 1) m' σ' H') ∧ ∀ x H', (Itl K a).yld i H x H' → g x σ H' fun σ2 H2 => tb { D with nx := N, ct := N, bk := D.nx } σ2 H2) :=
  for_list (xs := []) (fun _ σ' H' => σ' = σ ∧ H' = H) ⟨rfl, rfl⟩ (fun i σ' H' _ p => p.2 ▸ hl) (fun i x σ' H' e _ => by simp at e) (fun σ' H' p => by rw [p.1, p.2]; exact hd)
/-! ### o.m(e, .., k = v, ..), with a wish by the slots -/
section
open PySem PySem.Spec PyProof.Rows
variable {X : Cx} {CX : CXT} {k n : Nat} {f C : Addr} {fd : FuncData} {ps ks : List Str} {sp : Sp} {E : L2.St → XK} {m : Str} {pos apos : Pos} {e o : Expr} {es : List Expr} {kws : List Keyword} {ta : TE} {t tk : TA} {g : List Value → List Value → List Value} {gV : List V → List V → List V}
def tMethK (C : Addr) (m : Str) (n j : Nat) (sp : Sp) (gV : List V → List V → List V) (E : L2.St → XK) (to : TE) (ta tk : TA) : TE := fun σ H Q => to σ H fun x H1 => ∃ a dx fs, x = .ref a ∧ H1 a = some (.ins C dx fs) ∧ fs.lookup m = none ∧ ta σ H1 fun vs H2 => tk σ H2 fun zs H3 => vs.length = n ∧ zs.length = j ∧ sp (gV (.ref a :: vs) zs) H3 Q (E σ)
theorem run_kw {pins : List (Addr × Obj)} {σ : L2.St} {H : Hp} {s : Shared} {Q : VK} {us ws : List Value} {vs zs : List V} (F : FnOk X.prog X.w X.K X.mg X.base CX k f fd ps sp) (hr : Room k X.A) (hb : KBn X.K fd ps n ks g gV) (hx : PassesAt CX X σ (E σ))
    (I : Inv X pins σ H s) (r : Vals vs us) (rz : Vals zs ws) (l1 : vs.length = n) (l2 : zs.length = ks.length) (h : sp (gV vs zs) H Q (E σ)) : wpAny (model X.prog X.w) X.A (call (.ref f) us (ks.zip ws)) (EP X pins σ Q) X.xe s := by
  have bt := hb.to s us ws I.kIn (r.length.symm.trans l1) (rz.length.symm.trans l2)
  refine wpAny_call (codeAny_mono (F.run X.A X.stack s H ⟨us, ks.zip ws⟩ (g us ws) (gV vs zs) Q (E σ) hr I.env0 bt (hb.rel r rz) h) fun q s' hq => ?_)
  match q, hq with
  | .error e, hq => exact hx pins H s e s' I hq
  | .ok (.ret u), hq => exact I.after hq
  | .ok .next, hq => exact hq.elim
  | .ok .brk, hq => exact hq.elim
  | .ok .cont, hq => exact hq.elim
theorem pe_methK {pl : Sem Bool} (ho : PE X o ta) (c : Cls X.K C) (hm : Meth X.K C m f) (F : FnOk X.prog X.w X.K X.mg X.base CX k f fd ps sp) (hr : Room k X.A) (hb : KBn X.K fd ps (n + 1) ks g gV) (hx : ∀ σ, PassesAt CX X σ (E σ)) (ha : PA X (e :: es) t) (hkw : PK X kws tk)
    (hall : (backToKw pos (keywordEach kws X.env)).all (·.1.isSome) = true := by rfl) (hks : (backToKw pos (keywordEach kws X.env)).filterMap (·.1) = ks := by rfl)
    (hst : starEach (e :: es) X.env = (false, eval e X.env) :: starEach es X.env := by rfl) (hpl : ((backTo pos (starEach (e :: es) X.env)).any (·.1) || (backToKw pos (keywordEach kws X.env)).any (·.1.isNone)) = false := by rfl)
    (ht : eval (.Call (.Attribute o m apos) (e :: es) kws pos) X.env = (do
      let ov ← eval o X.env
      standAt apos.atName
      let (f, first) ← holding [ov] (getMethod ov m pl)
      callWith pos f first (backTo pos (starEach (e :: es) X.env)) (backToKw pos (keywordEach kws X.env))) := by rfl) :
    PE X (.Call (.Attribute o m apos) (e :: es) kws pos) (tMethK C m n ks.length sp gV E ta t tk) := by
  refine ⟨fun pins s σ H Q I h => ?_⟩
  refine PySem.W.methodCall_KW (pl := pl) (thn (ho.run pins s σ H _ I h) fun u s1 ⟨x, H1, I1, rx, a, dx, fs, ex, ea, l, q⟩ => ?_) ht
  subst ex
  cases (show u = Value.ref a from rx)
  refine getmeth_ok I1 ea c hm l (PySem.W.callWith_KW (first := [.ref a]) (h₀ := X.base) I.ok.mod.kin hm.kp hall (thn (ha.run pos pins s1 σ H1 _ I1 q) fun us s2 ⟨vs, H2, I2, r, q2⟩ => ?_) hpl hst)
  refine thn (hkw.run pos pins s2 σ H2 _ I2 q2) fun ws s3 ⟨zs, H3, I3, rz, l1, l2, q3⟩ => ⟨I3.kIn, ?_⟩
  rw [hks]
  exact run_kw (us := .ref a :: us) (vs := .ref a :: vs) F hr hb (hx σ) I3 (.cons rfl r) rz (congrArg Nat.succ l1) l2 q3
end
/-! ### defs called while an exception is handled: its object stands aside -/
section
open PySem PySem.Spec PyProof.Rows
structure FnP (P : Program) (w : World) (K : PySem.W.Frag) (mg : Str → Option Value) (base : Heap) (CX : CXT) (k : Nat) (f : Addr) (fd : FuncData) (ps : List Str) (sp : Sp) : Prop where
  len : ∀ vs H Q E, sp vs H Q E → vs.length = ps.length
  run : ∀ (A : Around) (outer : List Env) (s : Shared) (H : Hp) (args : Args) (us : List Value) (vs : List V) (Q : VK) (E : XK) (p : Addr × Obj), L2H.RoomH k A → L2H.PinOk outer H s p → Env0 P w K mg base A outer s H → BindsTo s fd args (ps.zip us) → Vals vs us → sp vs H Q E →
    codeAny (model P w) A (.call (.ref f) args) (CR CX outer P w H s Q E) s
theorem fn_ofP {CX : CXT} {P : Program} {w : World} {K : PySem.W.Frag} {mg : Str → Option Value} {base : Heap} {k : Nat} {f : Addr} {name qual : Str} {params : Arguments} {body : List Stmt} {scope : Scope} {dV kV doc pm cdv ct oc : Value} {an od : Option Addr}
    {osl : Array (Option Value)} {N ps : List Str} {sp : Sp} (lk : K.lookup f = some ⟨oc, od, .func (PySem.W.fnOf name qual params body scope dV kV doc pm an cdv ct), osl⟩) (hcd : PySem.W.codeIn K cdv qual = true) (S : FnScope N ps scope)
    (len : ∀ vs H Q E, sp vs H Q E → vs.length = ps.length)
    (hbody : ∀ (A : Around) (outer : List Env) (s : Shared) (H : Hp) (vs : List V) (Q : VK) (E : XK) (p : Addr × Obj), L2H.RoomH k (A.deeper (envOfC qual scope s.heap.objs.size f cdv)) → sp vs H Q E →
      ∃ t, PSs (L2H.cxH CX P w K mg base N qual scope f cdv A outer s H E p) body t ∧ t { nx := fun _ H' => Q .non H', rt := Q } (L2.start N vs) H) :
    FnP P w K mg base CX (k + 1) f (PySem.W.fnOf name qual params body scope dV kV doc pm an cdv ct) ps sp := by
  refine ⟨len, fun A outer s H args us vs Q E p hr hp e0 hb r hsp => ?_⟩
  have kk : ∀ b o, base.get? b = some o → s.heap.get? b = some o := fun b o e => (e0.bs b o e).1
  have KX : K.In s.heap := e0.mod.kin.keeps kk
  have hk2 : ∀ y ∈ ps.zip us, scope.names.lookup y.1 = some .local ∨ (scope.names.lookup y.1 = some .cell ∧ ((cellsFrom (s.heap.objs.size + 1) scope.names []).lookup y.1).isSome = true) := fun y hy =>
    (S.par y.1 (List.of_mem_zip (a := y.1) (b := y.2) hy).1).imp id fun q => ⟨q, PySem.W.cellsFrom_some _ _ _ (.inl q)⟩
  refine codeAny_call_function hr.depth (KX _ _ lk) rfl S.co S.gen rfl (PySem.W.codeRec_of KX hcd) (hb _ _ _ _ (wpAny_newFunctionEnv_cells S.kind hk2 fun env he s1 x => ?_))
  subst he
  refine ⟨(e0.mod.nolimit.keeps kk).keeps x.toInCall.keep, codeAny_func ?_⟩
  obtain ⟨t, ht, hq⟩ := hbody A outer s H vs Q E p (hr.deeper _) hsp
  refine wpAny_mono (ht.run [] s1 _ H _ (L2H.inv_startH S hp e0 (len _ _ _ _ hsp) r x) hq) (fun fl s' hs => ?_) fun e s' hs => hs
  match fl, hs with
  | .ret u, ⟨v, σ', H', J, rv, q⟩ => exact ⟨v, H', J.os, J.bare, J.base, J.hok, rv, q⟩
  | .next, ⟨σ', H', J, q⟩ => exact ⟨.non, H', J.os, J.bare, J.base, J.hok, rfl, q⟩
  | .brk, ⟨_, _, _, q⟩ => exact q.elim
  | .cont, ⟨_, _, _, q⟩ => exact q.elim
theorem okP {P : Program} {w : World} {K : PySem.W.Frag} {mg : Str → Option Value} {base : Heap} {x qual : Str} {st : Stmt} {f : Addr} {fd : FuncData} {N ps : List Str} {k : Nat} {sp : Sp} (F : L2.Fun K x qual st f fd) (S : FnScope N ps (defScope st)) (len : ∀ vs H Q E, sp vs H Q E → vs.length = ps.length)
    (hbody : ∀ (cdv : Value) (A : Around) (outer : List Env) (s : Shared) (H : Hp) (vs : List V) (Q : VK) (E : XK) (p : Addr × Obj), L2H.RoomH k (A.deeper (envOfC qual (defScope st) s.heap.objs.size f cdv)) → sp vs H Q E →
      ∃ t, PSs (L2H.cxH CX0 P w K mg base N qual (defScope st) f cdv A outer s H E p).nox (defBody st) t ∧ t { nx := fun _ H' => Q .non H', rt := Q } (L2.start N vs) H) : FnP P w K mg base CX0 (k + 1) f fd ps sp := by
  obtain ⟨oc, od, kV, doc, pm, an, cdv, ct, osl, rfl, lk, hcd⟩ := F.ex
  refine fn_ofP lk hcd S len fun A outer s H vs Q E p hr hsp => ?_
  obtain ⟨t, h, q⟩ := hbody cdv A outer s H vs Q E p hr hsp
  exact ⟨t, h.nox, q⟩
section
variable {X : Cx} {CX : CXT} {k : Nat} {C p g a dx : Addr} {fs : List (Str × V)} {f : Str} {fd : FuncData} {ps : List Str} {sp : Sp} {dvs : List V} {ds : List Value} {E : XK} {e : Expr} {pos : Pos} {ta : TE}
/-- the exception that is handled stands aside here -/
def Aside (X : Cx) : Prop := ∃ q : Addr × Obj, q ∈ X.pn
theorem Aside.pin {pins : List (Addr × Obj)} {σ : L2.St} {H : Hp} {s : Shared} (h : Aside X) (I : Inv X pins σ H s) : ∃ q, L2H.PinOk X.stack H s q := by
  obtain ⟨q, hq⟩ := h
  obtain ⟨p1, p2, p3, p4, p5⟩ := I.pin q (List.mem_append_left _ hq)
  exact ⟨q, p1, p2, fun hm => (List.mem_cons.mp (I.stkSub q.1 hm)).elim p3 p4, p5⟩
/-- e.f, a property, there -/
theorem pe_propP (he : PE X e ta) (c : Cls X.K C) (hp : PropOf X.K C f p g) (F : FnP X.prog X.w X.K X.mg X.base CX0 k g fd ps sp) (hr : L2H.RoomH (k + 1) X.A) (hs : Aside X) (hb : Binds X.K fd ps ds) (hd : Vals dvs ds)
    (hab : attributeBase e f X.env (eval e X.env) = eval e X.env) : PE X (.Attribute e f pos) (tProp C sp dvs E0 ta) := by
  refine ⟨fun pins s σ H Q I h => ?_⟩
  refine attr_of hab (thn (he.run pins s σ H _ I h) fun u s1 ⟨x, H1, I1, rx, a, dx, fs, ex, ea, q⟩ => ?_)
  subst ex
  cases (show u = Value.ref a from rx)
  obtain ⟨mA, O, _, _, _, _⟩ := ins_get I1.hok ea
  obtain ⟨od, J, _⟩ := O.look
  obtain ⟨rest, hrec⟩ := hp.rec_
  have I2 := I1.tok (s1.toks + 1)
  obtain ⟨pq, hpq⟩ := hs.pin I2
  have hl : ([Value.ref a] ++ ds).length = ps.length := by
    have l1 := F.len _ _ _ _ q
    have l2 := hd.length
    simp only [List.length_append, List.length_cons, List.length_nil] at l1 ⊢
    omega
  have hc : (PySem.W.clsIn X.K C).isSome = true := by
    obtain ⟨cd, hc, _⟩ := PySem.W.any_some c.hd
    rw [hc]; rfl
  have pg := PySem.W.plainGet_of (c.get f)
  refine PySem.W.get_bind I1.kIn J pg.1 (PySem.W.findObj_data hc hp.at_ hp.get hp.tak) pg.2 (wpAny_call (PySem.W.prop_get (s := { s1 with toks := s1.toks + 1 }) I1.kIn hrec ?_))
  refine codeAny_mono (F.run X.A.in1 X.stack { s1 with toks := s1.toks + 1 } H1 ⟨[.ref a], []⟩ (.ref a :: ds) (.ref a :: dvs) Q _ pq ⟨by have := hr.dp; show X.A.depth + 3 * k + 5 < _; omega, by have := hr.un; show X.A.units + 1 + 16 * k + 200 < _; omega⟩ hpq I2.env0.in1 (hb _ [.ref a] I2.kIn hl) (.cons rfl hd) q) fun r s' hq => ?_
  match r, hq with
  | .error er, hq => exact hq.elim
  | .ok (.ret u), hq =>
    obtain ⟨v, H', I3, rv, q3⟩ := I2.after hq
    show wpAny _ _ (handedOut u) _ _ _
    rw [PySem.W.handedOut_of (handed_of rv)]
    exact wpAny_pure ⟨v, H', I3, rv, q3⟩
  | .ok .next, hq => exact hq.elim
  | .ok .brk, hq => exact hq.elim
  | .ok .cont, hq => exact hq.elim
end
end
/-! ### sets of texts -/
section
open PySem PySem.Spec PyProof.Rows
def keyT (e : Int × Value) : Str := match e.2 with
  | .str k _ => k
  | _ => Str.empty
/-- a table with the texts l, each once -/
structure TsOk (w : World) (es : Array (Int × Value)) (t : SetTable) (l : List Str) : Prop where
  good : ∀ e ∈ es.toList, ∃ k u, e = (hashStr w k, Value.str k u)
  perm : (es.toList.map keyT).Perm l
  nd : l.Nodup
  few : es.size < scanBound
  fit : t.fits es.size = true
  ris : L2.Ris t.place.toList
  led : w.params.followText "set-order" = true ∨ t.led = true
def TSet (w : World) (h : Heap) (a : Addr) (l : List Str) : Prop := ∃ o es ep t, h.get? a = some o ∧ o.ExactSet ∧ o.data = .set es ep t ∧ TsOk w es t l
section
variable {P : Program} {w : World} {h h' : Heap} {a : Addr} {l : List Str} {es : Array (Int × Value)} {t : SetTable}
theorem TSet.at (R : TSet w h a l) (k : ∀ o, h.get? a = some o → h'.get? a = some o) : TSet w h' a l := by
  obtain ⟨o, es, ep, t, ho, r⟩ := R
  exact ⟨o, es, ep, t, k o ho, r⟩
theorem str_isS (k : Str) (u : Tok) : (PySem.strKind P w).is k (.str k u) = true := by
  show Value.isStrOf k (.str k u) = true
  simp [Value.isStrOf]
theorem TsOk.elems (T : TsOk w es t l) : ElemsOf (PySem.strKind P w) es.toList := fun e he => by
  obtain ⟨k, u, rfl⟩ := T.good e he
  exact ⟨⟨k, str_isS k u, rfl⟩, rfl⟩
theorem TsOk.size (T : TsOk w es t l) : es.size = l.length := by
  have := T.perm.length_eq
  rwa [List.length_map, Array.length_toList] at this
theorem TsOk.is (T : TsOk w es t l) {e : Int × Value} (he : e ∈ es.toList) (k : Str) : (PySem.strKind P w).is k e.2 = true ↔ keyT e = k := by
  obtain ⟨j, u, rfl⟩ := T.good e he
  constructor
  · intro q
    exact ((PySem.strKind P w).inj (.str j u) k j q (str_isS j u)).symm
  · rintro rfl
    exact str_isS j u
theorem TsOk.mem (T : TsOk w es t l) (k : Str) : k ∈ l ↔ ∃ e ∈ es.toList, (PySem.strKind P w).is k e.2 = true := by
  rw [← T.perm.mem_iff, List.mem_map]
  exact ⟨fun ⟨e, he, q⟩ => ⟨e, he, (T.is he k).2 q⟩, fun ⟨e, he, q⟩ => ⟨e, he, (T.is he k).1 q⟩⟩
theorem TSet.setOf (R : TSet w h a l) : h.SetOf (PySem.strKind P w) a (fun k => decide (k ∈ l)) l.length := by
  obtain ⟨o, es, ep, t, ho, hx, hd, T⟩ := R
  exact ⟨o, es, ep, t, ho, hx, hd, T.elems, fun k => by rw [decide_eq_true_eq]; exact T.mem k, T.few, T.fit, T.size⟩
theorem TsOk.relay (T : TsOk w es t l) : TsOk w (relayAll t es (SetTable.grown es.size)).1 (relayAll t es (SetTable.grown es.size)).2.1 l := by
  have pm := relayAll_perm t es (SetTable.grown es.size)
  have hs : (relayAll t es (SetTable.grown es.size)).1.size = es.size := by rw [← Array.length_toList, pm.length_eq, Array.length_toList]
  exact ⟨fun e he => T.good e (pm.mem_iff.mp he), (pm.map keyT).trans T.perm, T.nd, by rw [hs]; exact T.few, relayAll_fits t es _, L2.relayAll_ris t es _, T.led.imp id fun z => by rw [L2.relayAll_led]; exact z⟩
theorem TsOk.off (T : TsOk w es t l) : TsOk w es { t with plain := false } l := ⟨T.good, T.perm, T.nd, T.few, SetTable.fits_plain_off T.fit, T.ris, T.led⟩
theorem TsOk.lay (T : TsOk w es t l) {k : Str} (u : Tok) (hk : k ∉ l) (room : l.length + 1 < scanBound) : TsOk w (layNew t es (hashStr w k) (.str k u)).1 (layNew t es (hashStr w k) (.str k u)).2.1 (k :: l) := by
  have pm := layNew_perm t es (hashStr w k) (.str k u)
  rw [Array.toList_push] at pm
  have pc := pm.trans (List.perm_append_singleton _ _)
  have pk : _ = _ := (pc.map keyT).length_eq
  have hs : (layNew t es (hashStr w k) (.str k u)).1.size = l.length + 1 := by
    rw [← Array.length_toList, pc.length_eq, List.length_cons, Array.length_toList, T.size]
  refine ⟨fun e he => ?_, (pc.map keyT).trans (T.perm.cons _), List.nodup_cons.mpr ⟨hk, T.nd⟩, by rw [hs]; exact room, layNew_fits t es _ _, L2.layNew_ris t es _ _ T.ris, T.led.imp id fun z => by rw [L2.layNew_led]; exact z⟩
  rcases List.mem_cons.mp (pc.mem_iff.mp he) with z | z
  · exact ⟨k, u, z⟩
  · exact T.good e z
theorem TSet.new (w : World) (h : Heap) : TSet w (h.push { cls := .type "set", dict := none, data := .set #[] 0 (.fresh 0 0 (!w.params.followText "set-order")) }) h.objs.size [] := by
  refine ⟨_, #[], 0, _, Heap.get?_push_size _ rfl, ⟨rfl, rfl, rfl⟩, rfl, (fun e he => by simp at he), by simp, List.nodup_nil, by decide, by rfl, List.Pairwise.nil, ?_⟩
  show _ ∨ (!w.params.followText "set-order") = true
  cases w.params.followText "set-order" <;> simp
end
/-- with k -/
def addT (k : Str) (l : List Str) : List Str := if k ∈ l then l else k :: l
theorem addT_mem {k j : Str} {l : List Str} : j ∈ addT k l ↔ j = k ∨ j ∈ l := by
  unfold addT
  split
  · rename_i h
    exact ⟨.inr, fun z => z.elim (fun e => e ▸ h) id⟩
  · exact List.mem_cons
theorem addT_nd {k : Str} {l : List Str} (h : l.Nodup) : (addT k l).Nodup := by
  unfold addT
  split
  · exact h
  · rename_i q
    exact List.nodup_cons.mpr ⟨q, h⟩
theorem addT_len {k : Str} {l : List Str} : (addT k l).length ≤ l.length + 1 := by
  unfold addT
  split <;> simp
section
variable {P : Program} {w : World} {A : Around} {E : Value → Shared → Prop} {s : Shared} {a : Addr} {l : List Str}
theorem ts_tail {g : Bool → Sem Unit} (hg : ∀ (b : Bool) (z : Shared) (q : Unit → Shared → Prop), q () z → wpAny (model P w) A (g b) q E z) {o : Obj} {es es1 : Array (Int × Value)} {ep : Nat} {t t2 : SetTable} (ho : s.heap.get? a = some o) (hex : o.ExactSet) (hd : o.data = .set es ep t)
    (T : TsOk w es1 t2 l) {wd : Bool} {R : Option Bool → Shared → Prop} (hR : ∀ h', Heap.SameBut a s.heap h' → TSet w h' a l → R (some true) { s with heap := h' }) :
    wpAny (model P w) A (do
        storeSet a es1 t2
        if (!wd && t2.tooFull) = true then do
            g (relayAll t2 es1 (SetTable.grown es1.size)).2.2
            storeSet a (relayAll t2 es1 (SetTable.grown es1.size)).1 (relayAll t2 es1 (SetTable.grown es1.size)).2.1
            pure (some true)
          else pure (some true)) R E s := by
  have sb := Heap.SameBut.update s.heap a (Obj.putSet es1 t2)
  have ho1 := L2.store_at (es' := es1) (t' := t2) ho hd
  refine wpAny_bind (wpAny_storeSet_of ho hd ?_ (fits_of_scanBound T.few))
  split
  · have T2 := T.relay
    generalize relayAll t2 es1 (SetTable.grown es1.size) = Z at T2 ⊢
    obtain ⟨es2, t3, gv⟩ := Z
    dsimp only at T2 ⊢
    refine wpAny_bind (hg _ _ _ (wpAny_bind (wpAny_storeSet_of ho1 rfl ?_ (fits_of_scanBound T2.few))))
    exact wpAny_pure (hR _ (sb.trans (Heap.SameBut.update _ a _)) ⟨_, es2, _, t3, L2.store_at (es' := es2) (t' := t3) ho1 rfl, hex, rfl, T2⟩)
  · exact wpAny_pure (hR _ sb ⟨_, es1, _, t2, ho1, hex, rfl, T⟩)
theorem ts_addH {k : Str} {u : Tok} {Q : Bool → Shared → Prop} (R : TSet w s.heap a l) (room : l.length + 1 < scanBound) (hQ : ∀ h' b, Heap.SameBut a s.heap h' → TSet w h' a (addT k l) → Q b { s with heap := h' }) :
    wpAny (model P w) A (setAddHashed a (.str k u) ((PySem.strKind P w).hash k)) Q E s := by
  obtain ⟨o, es, ep, t, ho, hex, hd, T⟩ := R
  have hel : ElemsOf (PySem.strKind P w) es.toList := T.elems
  have hgw : ∀ (b : Bool) (z : Shared) (q : Unit → Shared → Prop), q () z → wpAny (model P w) A (match b with | true => rule "set.scan.the-table-gave-way" | false => pure ()) q E z := fun b z q hq => by
    cases b
    · exact wpAny_pure hq
    · exact wpAny_rule hq
  unfold setAddHashed setAddHashedIn
  refine wpAny_holding (wpAny_bind (wpAny_setState_of ho hd T.fit ?_))
  dsimp only
  rw [byScan_of (show (Value.str k u).scannable = true from rfl) T.few hel]
  simp only [↓reduceIte]
  unfold setAddByScan
  refine wpAny_bind (wpAny_bind (wpAny_rule (wpAny_bind (wpAny_setScan_of (str_isS k u) ho hd T.fit hel ?_))))
  cases hfi : List.findIdx? (fun e => (PySem.strKind P w).is k e.2) es.toList with
  | some j =>
    dsimp only
    obtain ⟨hj, pj, _⟩ := List.findIdx?_eq_some_iff_getElem.mp hfi
    have hk : k ∈ l := (T.mem (P := P) k).2 ⟨_, List.getElem_mem hj, pj⟩
    refine wpAny_pure (wpAny_pure (hQ s.heap _ (Heap.SameBut.refl a s.heap) ?_))
    rw [show addT k l = l from if_pos hk]
    exact ⟨o, es, ep, t, ho, hex, hd, T⟩
  | none =>
    dsimp only
    have hk : k ∉ l := fun z => by
      obtain ⟨e, he, q⟩ := (T.mem (P := P) k).1 z
      have c := List.findIdx?_eq_none_iff.mp hfi e he
      rw [q] at c; cases c
    rw [show addT k l = k :: l from if_neg hk] at hQ
    have T1 : TsOk w (layNew t es ((PySem.strKind P w).hash k) (.str k u)).1 (layNew t es ((PySem.strKind P w).hash k) (.str k u)).2.1 (k :: l) := T.lay u hk room
    generalize layNew t es ((PySem.strKind P w).hash k) (.str k u) = Z at T1 ⊢
    obtain ⟨es1, t1, wd, gv⟩ := Z
    dsimp only at T1 ⊢
    refine wpAny_bind (hgw _ _ _ ?_)
    split
    · refine wpAny_bind ?_
      rw [hashByValue_scannable 8 (x := Value.str k u) rfl]
      refine wpAny_pure (ts_tail (l := k :: l) ?_ ho hex hd ?_ fun h' sb r => ?_)
      · exact fun b z q hq => hgw b z q hq
      · split
        · exact T1
        · exact T1.off
      · dsimp only
        exact wpAny_pure (hQ h' _ sb r)
    · refine wpAny_bind (wpAny_pure ?_)
      simp only [↓reduceIte]
      refine ts_tail ?_ ho hex hd T1 fun h' sb r => ?_
      · exact fun b z q hq => hgw b z q hq
      · dsimp only
        exact wpAny_pure (hQ h' _ sb r)
end
end
/-! ### sets of texts, tracked: add, comprehensions, sorted -/
section
open PySem PySem.Spec PyProof.Rows
def TSO (w : World) (a : Addr) (l : List Str) : HO := .ext fun h => TSet w h a l
theorem tso_new {w : World} {P : Program} {H : Hp} {h : Heap} {a : Addr} {l : List Str} (R : TSet w h a l) : ObjOk P w H h a (TSO w a l) := by
  have ⟨o, _, _, _, ho, _⟩ := R
  exact ⟨R, ⟨o, ho⟩, fun _ _ q k => q.at k⟩
section
variable {X : Cx}
theorem tso_get {pins : List (Addr × Obj)} {σ : L2.St} {H : Hp} {s : Shared} {a : Addr} {l : List Str} (I : Inv X pins σ H s) (ha : H a = some (TSO X.w a l)) : TSet X.w s.heap a l := (I.hok a _ ha).1
theorem ts_add {pins : List (Addr × Obj)} {σ : L2.St} {H : Hp} {s : Shared} {E : Value → Shared → Prop} {D : Addr} {l : List Str} {k : Str} {u : Tok} {Q : Value → Shared → Prop} (I : Inv X pins σ H s) (hD : H D = some (TSO X.w D l)) (room : l.length + 1 < scanBound)
    (h : ∀ s', Inv X pins σ (upd H D (TSO X.w D (addT k l))) s' → Q .none s') : wpAny (model X.prog X.w) X.A (call (.builtin "set.add") [.ref D, .str k u]) Q E s := by
  have R := tso_get I hD
  have hS : s.heap.SetOf (PySem.strKind X.prog X.w) D (fun k => decide (k ∈ l)) l.length := R.setOf
  refine wpAny_call_entry F.slot_set_add hS.typeIs F.entry_set_add ?_ (F.args_set_add_2 _ _)
  unfold Builtin.«set.add» Builtin.Frozenset.oneOther
  simp only [List.isEmpty_nil, bind_assoc]
  unfold Builtin.Frozenset.addrOf setAdd
  refine wpAny_bind (wpAny_pure ?_)
  try dsimp only
  refine wpAny_bind (wpAny_pure ?_)
  try dsimp only
  refine wpAny_bind (wpAny_holding (wpAny_bind ((PySem.strKind X.prog X.w).pyHash (str_isS k u) (ts_addH (s := { s with toks := s.toks + 1 }) R room fun h' b sb new => ?_))))
  have he : ∃ v, h'.get? D = some v := let ⟨o, _, _, _, ho, _⟩ := new; ⟨o, ho⟩
  exact wpAny_pure ⟨_, rfl, h _ (I.write (e := D) (t' := s.toks + 1) (by rw [hD]; trivial) (.inl rfl) (fun b v hb hu => (sb.2 b hb).trans hu) he (tso_new new))⟩
/-- {elt for target in iter if ..}, elt a text: D the new set -/
def tScT (w : World) (wi : TI) (g : TG) (tt : TT) (te : TE) (vs : List Nat) : TE := fun σ H Q => wi σ H fun J H1 => ∀ D, H1 D = none → ∃ W : Nat → Nat → Hp → Prop, (∃ m, W 0 m (upd H1 D (TSO w D []))) ∧ ∀ i m H, W i m H →
  (J.stop i H ∧ Q (.ref D) H) ∨ (J.go i H ∧ ∃ Nx : Hp → Prop, (∀ H', Nx H' → ∃ m', m' < m ∧ W (i + 1) m' H') ∧ ∀ x H', J.yld i H x H' → g x (wipe σ vs) H' fun σ2 H2 => wipe σ2 vs = wipe σ vs ∧ tt σ2 H2 fun b H3 =>
    if b = true then te σ2 H3 fun y H4 => ∃ (c : Str) (l : List Str), y = .str c ∧ H4 D = some (TSO w D l) ∧ l.length + 1 < scanBound ∧ Nx (upd H4 D (TSO w D (addT c l))) else Nx H3)
theorem pe_scT {elt tg iter : Expr} {ifs : List Expr} {scope : Scope} {own : List (Str × Nat)} {pos : Pos} {wi : TI} {g : TG} {tt : TT} {te : TE} (hc : X.calm = true) (hN : X.N.Nodup) (hi : PI X tg iter wi) (ok : BlkOk X.N X.env.scope scope own)
    (hg : ∀ (s : Shared) (H : Hp) (C : Addr) (cl : List (Str × Addr)) (fp : List Addr), PG (X.blk s H scope (compEnvC scope cl C X.env) fp) tg g) (ht : ∀ (s : Shared) (H : Hp) (C : Addr) (cl : List (Str × Addr)) (fp : List Addr), PTs (X.blk s H scope (compEnvC scope cl C X.env) fp) ifs tt)
    (he : ∀ (s : Shared) (H : Hp) (C : Addr) (cl : List (Str × Addr)) (fp : List Addr), PE (X.blk s H scope (compEnvC scope cl C X.env) fp) elt te) (hs : ∀ x, foldedSetIterable iter X.env x = pure x := by intro _; rfl) :
    PE X (.SetComp elt [⟨tg, iter, ifs, 0⟩] scope pos) (tScT X.w wi g tt te (own.map (·.2))) := by
  refine ⟨fun pins s σ H Q I h => ?_⟩
  rw [PpSet.eval_SetComp]
  have fr : ∀ y ∈ scope.names, y.2 = .free → ∃ c, X.env.cells.lookup y.1 = some c := fun y hy e => (ok.free y hy e).elim (fun k => I.ok.has _ (.inl k)) fun k => I.ok.has _ (.inr k)
  refine wpAny_comprehension_free (use := none) rfl hs (closure_ok fr) ok.kind (fun y hy e => by rw [ok.uniq y hy, e]) (thn (hi.run pins s σ H _ I h) fun xv s1 hx => thn hx fun itv s2 h2 => ?_)
  obtain ⟨it, fp, tn, J, H2, rfl, I2, T, st2, f2, q⟩ := h2
  refine PpSet.newSet_ok (newEnv_comp ?_)
  generalize hD : s2.heap.objs.size = D
  obtain ⟨W, ⟨m0, w0⟩, turn⟩ := q D (I2.hok.fresh (Nat.le_of_eq hD))
  generalize hs3 : ({ s2 with heap := s2.heap.push { cls := .type "set", dict := none, data := .set #[] 0 (.fresh 0 0 (!X.w.params.followText "set-order")) } } : Shared) = s3
  have e3 : s3.heap = s2.heap.push { cls := .type "set", dict := none, data := .set #[] 0 (.fresh 0 0 (!X.w.params.followText "set-order")) } := by rw [← hs3]
  have I3 : Inv X pins σ (upd H2 D (TSO X.w D [])) s3 := by
    rw [← hs3]
    exact I2.laid (t' := s2.toks) (fun b o e => Heap.get?_push_of_some _ e) (Nat.le_of_eq hD) (hD ▸ tso_new (TSet.new X.w s2.heap))
  have f3 : ∀ b ∈ fp, FpOk X pins (upd H2 D (TSO X.w D [])) b ∧ b < s3.heap.objs.size := fun b hb => by
    obtain ⟨o, e, _⟩ := T.obj _ _ st2 b hb
    have lt := Heap.lt_size e
    refine ⟨⟨?_, (f2 b hb).2⟩, by rw [e3, Heap.size_push]; exact Nat.lt_succ_of_lt lt⟩
    rw [upd_ne (by rw [← hD]; exact Nat.ne_of_lt lt)]
    exact (f2 b hb).1
  have I4 := block_start I3 ok hN f3
  have pg := hg s3 (upd H2 D (TSO X.w D [])) s3.heap.objs.size (cellsFrom (s3.heap.objs.size + 1) scope.names (cloFrom X.env.cells scope.names [])) fp
  have pt := ht s3 (upd H2 D (TSO X.w D [])) s3.heap.objs.size (cellsFrom (s3.heap.objs.size + 1) scope.names (cloFrom X.env.cells scope.names [])) fp
  have pe := he s3 (upd H2 D (TSO X.w D [])) s3.heap.objs.size (cellsFrom (s3.heap.objs.size + 1) scope.names (cloFrom X.env.cells scope.names [])) fp
  have fin0 : ∀ s' m H', Inv X pins σ H' s' → Q (.ref D) H' → s'.heap.Ns s3.heap.objs.size m → FpOk X pins H' s3.heap.objs.size → compPost (model X.prog X.w) X.A X.xe none (EP X pins σ Q) (.ref D) s3.heap.objs.size (.ok .next) s' := fun s' m H' I' q hn f => by
    obtain ⟨f0, f1, f2, f3, f4, f5⟩ := f
    exact ⟨m, hn, fun h'' sb => ⟨.ref D, H', I'.turned (t' := s'.toks) (fun b o hb e => (sb.2 b hb).trans e) f0 f1 f3 f4 f5, rfl, q⟩⟩
  show codeAny _ _ (.compStart (.SetComp elt [⟨tg, iter, ifs, 0⟩] scope pos) 0 (.ref it) (.ref D) (compEnvC scope (cellsFrom (s3.heap.objs.size + 1) scope.names (cloFrom X.env.cells scope.names [])) s3.heap.objs.size X.env)) (compPost (model X.prog X.w) X.A X.xe none (EP X pins σ Q) (.ref D) s3.heap.objs.size) { s3 with heap := pushCells (s3.heap.push { cls := .type "dict", data := .dict #[] }) scope.names }
  have nfp : ∀ b ∈ fp, (upd H2 D (TSO X.w D [])) b = none := fun b hb => (f3 b hb).1.1
  have st3 : tn 0 s3.heap := T.keep _ _ _ st2 fun b _ o e => by rw [e3]; exact Heap.get?_push_of_some _ e
  generalize hce : compEnvC scope (cellsFrom (s3.heap.objs.size + 1) scope.names (cloFrom X.env.cells scope.names [])) s3.heap.objs.size X.env = ce at I4 pg pt pe ⊢
  have cL : ce.locals = s3.heap.objs.size := by subst hce; rfl
  generalize hH3 : upd H2 D (TSO X.w D []) = H3 at I3 I4 pg pt pe w0 nfp f3
  generalize hs4 : ({ s3 with heap := pushCells (s3.heap.push { cls := .type "dict", data := .dict #[] }) scope.names } : Shared) = s4 at I4 ⊢
  have st4 : tn 0 s4.heap := T.keep _ _ _ st3 fun b _ o e => by rw [← hs4]; exact pushCells_keeps _ _ _ _ (Heap.get?_push_of_some _ e)
  have stat : ∀ {σ' : L2.St} {H' : Hp} {s' : Shared}, Inv (X.blk s3 H3 scope ce fp) [] σ' H' s' → (∀ b ∈ fp, H' b = none) → ∀ b ∈ fp, FpOk (X.blk s3 H3 scope ce fp) [] H' b := fun {σ' H' s'} J hn b hb =>
    ⟨hn b hb, (J.ok.exf b hb).1, J.ok.exfs b hb, .inl hb, fun x c e => (J.ok.exf b hb).2 x c e, fun p hp => absurd (show p ∈ ([] : List (Addr × Obj)) ++ [] from hp) (by simp)⟩
  have loop : codeAny (model X.prog X.w) X.A (.compLoop (.SetComp elt [⟨tg, iter, ifs, 0⟩] scope pos) 0 (.ref it) (.ref D) ce) (compPost (model X.prog X.w) X.A X.xe none (EP X pins σ Q) (.ref D) s3.heap.objs.size) s4 := by
    refine PpSet.compLoopS_any (fun n s' => ∃ i H', Inv (X.blk s3 H3 scope ce fp) [] (wipe σ (own.map (·.2))) H' s' ∧ tn i s'.heap ∧ (∀ b ∈ fp, H' b = none) ∧ W i n H') ?_ m0 ⟨0, H3, I4, st4, nfp, w0⟩
    rintro n s5 ⟨i, H5, I5, st5, n5, w5⟩
    rcases turn i n H5 w5 with ⟨stop, qq⟩ | ⟨go, Nx, hNx, step⟩
    · refine thnF (T.done (X.blk s3 H3 scope ce fp) rfl rfl rfl hc i [] s5 _ H5 (fun _ _ => False) I5 (stat I5 n5) st5 stop) fun r s6 ⟨hr, I6⟩ => ?_
      subst hr
      have I7 : Inv X pins σ H5 s6 := I3.call' (ch := fp) I6.os I6.base I6.hok I6.bare fun b hb => let ⟨_, g1, _, g3, g4, g5⟩ := (f3 b hb).1; ⟨g3, g1, g4, g5⟩
      have nC : H5 ce.locals = none := I6.free
      obtain ⟨m, hn, _⟩ := I6.loc
      have hn : s6.heap.Ns ce.locals m := hn
      rw [cL] at hn nC
      exact fin0 s6 m H5 I7 qq hn (I3.fpOk (Nat.le_refl _) nC)
    · refine thnF (T.item (X.blk s3 H3 scope ce fp) rfl rfl rfl hc i [] s5 _ H5 (fun _ _ => False) I5 (stat I5 n5) st5 go) fun r s6 ⟨u, hr, h6⟩ => ?_
      subst hr
      refine thnF h6 fun _ s7 ⟨x, H7, I7, r7, y7, st7, n7⟩ => ?_
      refine thnF (pg.run _ s7 _ H7 x u _ (I7.pinned (stat I7 n7) (T.obj _ _ st7)) r7 (step x H7 y7)) fun _ s8 ⟨σ8, H8, I8, hw8, q8⟩ => ?_
      refine thnF (pt.run _ s8 σ8 H8 _ I8 q8) fun b s9 ⟨H9, I9, q9⟩ => ?_
      have back : ∀ {s' : Shared} {H' : Hp}, Inv (X.blk s3 H3 scope ce fp) ([] ++ pinsAt fp s7.heap) σ8 H' s' → Nx H' → ∃ m, m < n ∧ ∃ i H', Inv (X.blk s3 H3 scope ce fp) [] (wipe σ (own.map (·.2))) H' s' ∧ tn i s'.heap ∧ (∀ b ∈ fp, H' b = none) ∧ W i m H' := fun {s' H'} J nx => by
        obtain ⟨m', hm, w'⟩ := hNx H' nx
        have pin : ∀ b ∈ fp, ∀ o, s7.heap.get? b = some o → s'.heap.get? b = some o ∧ H' b = none := fun b hb o e =>
          let z := J.pin (b, o) (List.mem_append_right _ (List.mem_append_right _ (mem_pinsAt hb e))); ⟨z.1, z.2.1⟩
        refine ⟨m', hm, i + 1, H', (J.unpinned (pins := [])).weak (by rw [← hw8, wipe_length]) (fun j v e => ?_), T.keep _ _ _ st7 fun b hb o e => (pin b hb o e).1, fun b hb => ?_, w'⟩
        · rw [← hw8] at e
          exact (wipe_some e).1
        · obtain ⟨o, e, _⟩ := T.obj _ _ st7 b hb
          exact (pin b hb o e).2
      cases b with
      | false =>
        simp only [Bool.false_eq_true, if_false] at q9 ⊢
        exact back I9 q9
      | true =>
        simp only [if_true] at q9 ⊢
        refine thnF (pe.run _ s9 σ8 H9 _ I9 q9) fun z s10 ⟨yv, H10, I10, r10, c, l, ey, hD10, hz10, nx⟩ => ?_
        subst ey
        obtain ⟨tk, rfl⟩ := r10
        exact ts_add (X := X.blk s3 H3 scope ce fp) I10 hD10 hz10 fun s11 I11 => back I11 nx
  exact PpSet.codeAny_compStart_set loop (T.self X.A 0 _ _ _ st4 loop)
end
/-- over a list that the block leaves as it is -/
theorem sc_listT {w : World} {K : PySem.W.Frag} {a : Addr} {xs : List V} {g : TG} {tt : TT} {te : TE} {vs : List Nat} {σ : L2.St} {H1 : Hp} {D : Addr} {Qd : Hp → Prop} (Pv : Nat → Hp → Prop) (h0 : Pv 0 (upd H1 D (TSO w D []))) (hl : ∀ i H, i ≤ xs.length → Pv i H → SqL K H a xs)
    (hs : ∀ i x H, xs[i]? = some x → Pv i H → g x (wipe σ vs) H fun σ2 H2 => wipe σ2 vs = wipe σ vs ∧ tt σ2 H2 fun b H3 =>
      if b = true then te σ2 H3 fun y H4 => ∃ (c : Str) (l : List Str), y = .str c ∧ H4 D = some (TSO w D l) ∧ l.length + 1 < scanBound ∧ Pv (i + 1) (upd H4 D (TSO w D (addT c l))) else Pv (i + 1) H3) (hd : ∀ H, Pv xs.length H → Qd H) :
    ∃ W : Nat → Nat → Hp → Prop, (∃ m, W 0 m (upd H1 D (TSO w D []))) ∧ ∀ i m H, W i m H →
      ((Itl K a).stop i H ∧ Qd H) ∨ ((Itl K a).go i H ∧ ∃ Nx : Hp → Prop, (∀ H', Nx H' → ∃ m', m' < m ∧ W (i + 1) m' H') ∧ ∀ x H', (Itl K a).yld i H x H' → g x (wipe σ vs) H' fun σ2 H2 => wipe σ2 vs = wipe σ vs ∧ tt σ2 H2 fun b H3 =>
        if b = true then te σ2 H3 fun y H4 => ∃ (c : Str) (l : List Str), y = .str c ∧ H4 D = some (TSO w D l) ∧ l.length + 1 < scanBound ∧ Nx (upd H4 D (TSO w D (addT c l))) else Nx H3) := by
  refine ⟨fun i m H => m = xs.length - i ∧ i ≤ xs.length ∧ Pv i H, ⟨xs.length, (Nat.sub_zero _).symm, Nat.zero_le _, h0⟩, ?_⟩
  rintro i m H ⟨rfl, hi, p⟩
  have q := hl i H hi p
  rcases Nat.lt_or_ge i xs.length with lt | ge
  · refine .inr ⟨⟨xs, xs[i], q, by simp [lt]⟩, Pv (i + 1), fun H' p' => ⟨xs.length - (i + 1), by omega, rfl, lt, p'⟩, fun x H' y => ?_⟩
    obtain ⟨e, y⟩ := y
    subst e
    exact hs i x _ (y xs q) p
  · obtain rfl : i = xs.length := Nat.le_antisymm hi ge
    exact .inl ⟨⟨xs, q, Nat.le_refl _⟩, hd H p⟩
end
/-! ### sorted texts -/
section
open PySem PySem.Spec PyProof.Rows
/-- x stands ahead of y, or they are the same -/
def leT (x y : Str) : Prop := ¬ y.cps.toList < x.cps.toList
instance (x y : Str) : Decidable (leT x y) := inferInstanceAs (Decidable (¬ _))
theorem str_ext {x y : Str} (h : x.cps.toList = y.cps.toList) : x = y := by
  cases x
  cases y
  exact congrArg Str.mk (Array.toList_inj.mp h)
theorem nlt_irrefl : ∀ l : List Nat, ¬ l < l := List.lt_irrefl
theorem leT_refl (x : Str) : leT x x := List.lt_irrefl _
theorem leT_anti {x y : Str} (h : leT x y) (k : leT y x) : x = y := str_ext (List.le_antisymm (List.not_lt.mp h) (List.not_lt.mp k))
theorem leT_trans {x y z : Str} (h : leT x y) (k : leT y z) : leT x z := List.not_lt.mpr (List.le_trans (List.not_lt.mp h) (List.not_lt.mp k))
theorem leT_total (x y : Str) : leT x y ∨ leT y x := by
  rcases List.le_total x.cps.toList y.cps.toList with h | h
  · exact .inl (List.not_lt.mpr h)
  · exact .inr (List.not_lt.mpr h)
theorem rising_pw : ∀ (l : List Str) (p : Str), risingS p l = true → (p :: l).Pairwise leT
  | [], p, _ => by simp
  | x :: r, p, h => by
    have h1 : (leT p x) ∧ risingS x r = true := by
      unfold risingS at h
      rw [Bool.and_eq_true, PyProof.Rows.ltCps_eq, Bool.not_eq_true', decide_eq_false_iff_not] at h
      exact h
    have ih := rising_pw r x h1.2
    refine List.pairwise_cons.mpr ⟨fun y hy => ?_, ih⟩
    rcases List.mem_cons.mp hy with rfl | hy
    · exact h1.1
    · exact leT_trans h1.1 ((List.pairwise_cons.mp ih).1 y hy)
theorem sorted_pw {l : List Str} (h : sortedS l = true) : l.Pairwise leT := by
  cases l with
  | nil => exact .nil
  | cons x r => exact rising_pw r x h
theorem pw_unique : ∀ {l m : List Str}, l.Perm m → l.Pairwise leT → m.Pairwise leT → l = m
  | [], m, p, _, _ => (List.perm_nil.mp p.symm).symm
  | x :: l, m, p, hl, hm => by
    cases m with
    | nil => exact absurd (List.perm_nil.mp p) (by simp)
    | cons y m =>
      have e : x = y := by
        have h1 : x ∈ y :: m := p.mem_iff.mp List.mem_cons_self
        have h2 : y ∈ x :: l := p.mem_iff.mpr List.mem_cons_self
        rcases List.mem_cons.mp h1 with e | h1
        · exact e
        rcases List.mem_cons.mp h2 with e | h2
        · exact e.symm
        exact leT_anti ((List.pairwise_cons.mp hl).1 y h2) ((List.pairwise_cons.mp hm).1 x h1)
      subst e
      rw [pw_unique (List.perm_cons _ |>.mp p) (List.pairwise_cons.mp hl).2 (List.pairwise_cons.mp hm).2]
/-- sorted -/
def sortT (l : List Str) : List Str := l.mergeSort fun x y => decide (leT x y)
theorem sortT_perm (l : List Str) : (sortT l).Perm l := List.mergeSort_perm l _
theorem sortT_pw (l : List Str) : (sortT l).Pairwise leT := by
  have h := List.pairwise_mergeSort (le := fun x y => decide (leT x y)) (fun a b c h k => by
    rw [decide_eq_true_eq] at h k ⊢
    exact leT_trans h k) (fun a b => by
    rw [Bool.or_eq_true, decide_eq_true_eq, decide_eq_true_eq]
    exact leT_total a b) l
  exact h.imp fun h => of_decide_eq_true h
theorem sortT_of {l ys : List Str} (p : ys.Perm l) (h : sortedS ys = true) : ys = sortT l := pw_unique (p.trans (sortT_perm l).symm) (sorted_pw h) (sortT_pw l)
theorem sortT_congr {l m : List Str} (p : l.Perm m) : sortT l = sortT m := pw_unique ((sortT_perm l).trans (p.trans (sortT_perm m).symm)) (sortT_pw l) (sortT_pw m)
theorem sortT_mem {l : List Str} {k : Str} : k ∈ sortT l ↔ k ∈ l := (sortT_perm l).mem_iff
theorem sortT_len {l : List Str} : (sortT l).length = l.length := (sortT_perm l).length_eq
theorem nd_perm {l m : List Str} (hl : l.Nodup) (hm : m.Nodup) (h : ∀ k, k ∈ l ↔ k ∈ m) : l.Perm m := by
  rw [List.perm_iff_count]
  intro k
  rw [hl.count, hm.count]
  simp [h k]
theorem strs_ofV : ∀ (l : List Value), (∀ v ∈ l, ∃ k u, v = Value.str k u) → ∃ ss, StrsAre l ss ∧ l.map (fun v => keyT (0, v)) = ss
  | [], _ => ⟨[], .nil, rfl⟩
  | v :: l, h => by
    obtain ⟨k, u, rfl⟩ := h v List.mem_cons_self
    obtain ⟨ss, h1, h2⟩ := strs_ofV l fun x hx => h x (List.mem_cons_of_mem _ hx)
    exact ⟨k :: ss, .cons k u h1, by rw [List.map_cons, h2]; rfl⟩
section
variable {P : Program} {w : World} {A : Around} {E : Value → Shared → Prop} {s : Shared} {a : Addr} {l : List Str}
theorem ts_sorted {Q : Value → Shared → Prop} (R : TSet w s.heap a l) (hh : A.handled = none)
    (hQ : ∀ s' p (out : Array Value) (c : Nat), (∀ b o, s.heap.get? b = some o → s'.heap.get? b = some o) → s'.gens = s.gens → s'.os = s.os → s.heap.objs.size ≤ p → s'.heap.get? p = some (seqObj "list" out c) → StrsAre out.toList (sortT l) → Q (.ref p) s') :
    wpAny (model P w) A (call (.builtin "sorted") [.ref a]) Q E s := by
  obtain ⟨o, es, ep, t, ho, hex, hd, T⟩ := R
  refine Calls.call_function_entry kind_sorted plain_sorted entry_sorted (args_sorted1 _) ?_
  unfold Builtin.«sorted»
  refine wpAny_bind (m := checkCount "sorted" 1 1 _) (wpAny_pure (wpAny_bind (L2.collect_set (A := A.in1) hh ⟨o, ho, hex.1, hd⟩ T.fit T.few T.ris T.led fun s1 vs k1 hz g1 o1 pm => ?_)))
  obtain ⟨ss, hS, es'⟩ := strs_ofV vs fun v hv => by
    obtain ⟨e, he, q⟩ := List.mem_map.mp (pm.mem_iff.mp hv)
    obtain ⟨k, u, rfl⟩ := T.good e he
    exact ⟨k, u, q.symm⟩
  have ps : ss.Perm l := by
    have q := pm.map fun v => keyT (0, v)
    rw [es', List.map_map] at q
    exact q.trans T.perm
  have hv : vs.length = l.length := by rw [pm.length_eq, List.length_map, Array.length_toList, T.size]
  have hL : vs.length ≤ sizeLine := by rw [hv, ← T.size]; exact fits_of_scanBound T.few
  refine wpAny_bind (wpAny_newList ?_ hL)
  have hoL : (s1.heap.push (seqObj "list" vs.toArray 0)).get? s1.heap.objs.size = some (seqObj "list" vs.toArray 0) := Heap.get?_push_size _ rfl
  refine wpAny_bind (wpAny_holding (wpAny_call_entry slot_list_sort ⟨_, hoL, rfl⟩ entry_list_sort (list_sort_treeKAny strKind_oneLt hoL hS.keysOf (fun v₁ v₂ rest e => keyKind_strs (by rw [← e]; exact hS)) hL fun st' hp hs => ⟨_, rfl, ?_⟩) (args_list_sort _)))
  obtain ⟨ys, h1, h2, h3⟩ := sorted_out_str hS hp hs
  obtain ⟨c, hc⟩ := sortedHeap_at (vs := vs) (out := (arrOf st').map (·.2)) hoL
  rw [sortT_of (h2.trans ps) h3] at h1
  refine wpAny_pure ⟨_, rfl, hQ _ s1.heap.objs.size _ c (fun b u e => ?_) g1 o1 hz hc h1⟩
  have q := k1 b u e
  have lt := Heap.lt_size q
  show (sortedHeap (s1.heap.push (seqObj "list" vs.toArray 0)) s1.heap.objs.size vs _).get? b = some u
  rw [sortedHeap_old (Nat.ne_of_lt lt) (by rw [size_push']; exact Nat.lt_succ_of_lt lt)]
  exact Heap.get?_push_of_some _ q
end
section
variable {X : Cx}
/-- sorted(found) -/
theorem cr_sortTS (hc : X.calm = true) : CallR X (.builtin "sorted") (fun vs H Q => ∃ (a : Addr) (l : List Str), vs = [V.ref a] ∧ H a = some (TSO X.w a l) ∧ ∀ p, H p = none → Q (.ref p) (upd H p (.lst ((sortT l).map V.str)))) := by
  intro pins s σ H vs us Q I r h
  obtain ⟨a, l, rfl, ha, q⟩ := h
  have R := tso_get I ha
  rw [Vals.ref1 r]
  have hl : l.length ≤ sizeLine := by
    obtain ⟨o, es, ep, t, ho, hex, hd, T⟩ := R
    rw [← T.size]; exact fits_of_scanBound T.few
  refine ts_sorted R (I.ok.hd hc) fun s' p out c k g o hp hg hi => ?_
  have hn : H p = none := I.hok.fresh hp
  have J : Inv X pins σ (upd H p (.lst ((sortT l).map V.str))) { s with heap := s'.heap, gens := s'.gens, drawn := s'.drawn, toks := s'.toks } :=
    I.call (ch := []) (Un.laid k hp hn) (I.hok.laid k hp ⟨by rw [List.length_map, sortT_len]; exact hl, out.toList, c, vals_of_strs hi, hg⟩) (by rw [g]; exact I.bare) (fun _ z => nomatch z)
  obtain ⟨h', g', d', t', os'⟩ := s'
  obtain ⟨h0, g0, d0, t0, os0⟩ := s
  cases (show os' = os0 from o)
  exact ⟨.ref p, _, J, rfl, q p hn⟩
/-- sorted(texts), any number -/
theorem cr_sortLS : CallR X (.builtin "sorted") (fun vs H Q => ∃ (a : Addr) (xs : List Str), vs = [V.ref a] ∧ SqL X.K H a (xs.map V.str) ∧ ∀ p, H p = none → Q (.ref p) (upd H p (.lst ((sortT xs).map V.str)))) := by
  intro pins s σ H vs us Q I r h
  obtain ⟨a, xs, rfl, hs, q⟩ := h
  obtain ⟨its, rv, hl, hlen⟩ := I.list hs
  rw [Vals.ref1 r]
  have l0 := rv.length
  rw [List.length_map] at l0 hlen
  refine PyProof.Rows.sorted_strsAny hl.isList rv.strs (by rw [← l0]; exact hlen) fun out ys h1 h2 h3 => ?_
  obtain ⟨ep, he'⟩ := PyProof.Rows.sortedAll_at s.heap its out
  rw [sortT_of h2 h3] at h1
  exact ⟨.ref _, upd H (s.heap.objs.size + 1) (.lst ((sortT xs).map V.str)), I.laid (t' := s.toks) (fun _ _ => PyProof.Rows.sortedAll_old) (Nat.le_succ _) ⟨by rw [List.length_map, sortT_len]; exact hlen, out.toList, ep, vals_of_strs h1, he'⟩, rfl, q _ (I.hok.fresh (Nat.le_succ _))⟩
end
end
/-! ### set(texts) -/
section
open PySem PySem.Spec PyProof.Rows
def setT (xs : List Str) : List Str := xs.foldl (fun l k => addT k l) []
theorem setT_go : ∀ (xs l : List Str), (∀ k, k ∈ xs.foldl (fun l k => addT k l) l ↔ k ∈ l ∨ k ∈ xs) ∧ (l.Nodup → (xs.foldl (fun l k => addT k l) l).Nodup) ∧ (xs.foldl (fun l k => addT k l) l).length ≤ l.length + xs.length
  | [], l => ⟨fun k => by simp, id, by simp⟩
  | x :: r, l => by
    obtain ⟨h1, h2, h3⟩ := setT_go r (addT x l)
    refine ⟨fun k => ?_, fun h => h2 (addT_nd h), ?_⟩
    · rw [List.foldl_cons, h1 k, addT_mem, List.mem_cons]
      constructor
      · rintro ((h | h) | h)
        · exact .inr (.inl h)
        · exact .inl h
        · exact .inr (.inr h)
      · rintro (h | h | h)
        · exact .inl (.inr h)
        · exact .inl (.inl h)
        · exact .inr h
    · rw [List.foldl_cons, List.length_cons]
      have := addT_len (k := x) (l := l)
      omega
theorem setT_mem {xs : List Str} {k : Str} : k ∈ setT xs ↔ k ∈ xs := by
  have := (setT_go xs []).1 k
  simpa [setT] using this
theorem setT_nd {xs : List Str} : (setT xs).Nodup := (setT_go xs []).2.1 List.nodup_nil
theorem setT_len {xs : List Str} : (setT xs).length ≤ xs.length := by
  have := (setT_go xs []).2.2
  simpa [setT] using this
theorem setT_take {xs : List Str} {i : Nat} {k : Str} (h : xs[i]? = some k) : setT (xs.take (i + 1)) = addT k (setT (xs.take i)) := by
  unfold setT
  rw [List.take_add_one, h, List.foldl_append]; rfl
theorem sortT_set {xs ys : List Str} (h : ∀ k, k ∈ xs ↔ k ∈ ys) : sortT (setT xs) = sortT (setT ys) := sortT_congr (nd_perm setT_nd setT_nd fun k => by rw [setT_mem, setT_mem]; exact h k)
/-- an empty set's object -/
abbrev set0 (w : World) : Obj := { cls := .type "set", dict := none, data := .set #[] 0 (.fresh 0 0 (!w.params.followText "set-order")) }
theorem TSet.first {w : World} {h : Heap} {a : Addr} (ho : h.get? a = some (set0 w)) : TSet w h a [] := by
  refine ⟨_, #[], 0, _, ho, ⟨rfl, rfl, rfl⟩, rfl, (fun e he => by simp at he), by simp, List.nodup_nil, by decide, by rfl, List.Pairwise.nil, ?_⟩
  show _ ∨ (!w.params.followText "set-order") = true
  cases w.params.followText "set-order" <;> simp
section
variable {P : Program} {w : World} {A : Around} {E : Value → Shared → Prop} {s : Shared}
theorem ts_update {I : Addr} {fp wr : List Addr} {G : Array GenState → Array GenState → Prop} {n : Nat} {Pv : Nat → Value → Prop} {St : Nat → Shared → Prop} {R : Result → Shared → Prop}
    (W : WalksS P w A.in1 I fp wr G n Pv St) (S : Addr) (hSf : S ∉ fp) (xs : List Str) (hn : n = xs.length) (hb : xs.length + 1 < scanBound) (hval : ∀ i v, Pv i v → ∃ k t, xs[i]? = some k ∧ v = .str k t) :
    ∀ (k i : Nat) (s : Shared), n - i = k → i ≤ n → St i s → TSet w s.heap S (setT (xs.take i)) → (∀ s', Moved (S :: wr) G s s' → TSet w s'.heap S (setT xs) → R (.ok (.ret .none)) s') →
      codeAny (model P w) A (.builtin "set.update.loop" ⟨[.ref S, .ref I], []⟩) R s := by
  have nw : S ∉ wr := fun h => hSf (W.sub _ h)
  have inc : ∀ b ∈ wr, b ∈ S :: wr := fun b hb => List.mem_cons_of_mem _ hb
  intro k
  induction k with
  | zero =>
    intro i s hk hi st hS hR
    obtain rfl : i = n := by omega
    refine codeAny_builtin F.entry_set_update_loop ?_
    rw [Around.under_plainId F.plain_set_update_loop _]
    show wpAny _ A.in1 (pyNext (.ref I) >>= _) _ _ s
    refine wpAny_bind (W.done s _ _ st fun s' hm => ?_)
    rw [List.take_of_length_le (by omega)] at hS
    exact wpAny_pure (hR s' (hm.mono inc) (hS.at fun o e => hm.heap S o nw e))
  | succ k ih =>
    intro i s hk hi st hS hR
    have lt : i < n := by omega
    refine codeAny_builtin F.entry_set_update_loop ?_
    rw [Around.under_plainId F.plain_set_update_loop _]
    show wpAny _ A.in1 (pyNext (.ref I) >>= _) _ _ s
    refine wpAny_bind (W.item i s _ _ lt st fun v s' hP st' hm => ?_)
    obtain ⟨z, t, hz, rfl⟩ := hval i v hP
    have hS' := hS.at (h' := s'.heap) fun o e => hm.heap S o nw e
    have hl : (setT (xs.take i)).length + 1 < scanBound := by
      have h1 := setT_len (xs := xs.take i)
      rw [List.length_take] at h1
      omega
    show wpAny _ A.in1 (holding [Value.str z t] (setAdd S (.str z t)) >>= _) _ _ s'
    refine wpAny_bind (wpAny_holding ?_)
    unfold setAdd
    refine wpAny_holding (wpAny_bind ((PySem.strKind P w).pyHash (k := z) (str_isS z t) (ts_addH (s := { s' with toks := s'.toks + 1 }) hS' hl fun h' b sb hS2 => ?_)))
    rw [← setT_take hz] at hS2
    refine wpAny_pure ⟨plainId_quiet F.plain_set_update_loop _, ih (i + 1) _ (by omega) lt (W.frame _ s' _ _ st' (Nat.le_succ _) fun b hb o e => ?_) hS2 fun s2 m2 q2 => ?_⟩
    · rw [sb.2 b (fun h : b = S => hSf (h ▸ hb))]; exact e
    · refine hR s2 (Moved.trans W.gtrans ((hm.mono inc).then_heap (Nat.le_succ _) fun b o hb e => ?_) m2) q2
      rw [sb.2 b (fun h : b = S => hb (h ▸ List.mem_cons_self))]; exact e
theorem strs_at : ∀ {vs : List Value} {xs : List Str}, StrsAre vs xs → ∀ {i : Nat} {v : Value}, vs[i]? = some v → ∃ k t, xs[i]? = some k ∧ v = .str k t
  | _, _, .nil, i, v, h => by simp at h
  | _, _, .cons y t r, i, v, h => by
    cases i with
    | zero =>
      cases h
      exact ⟨y, t, rfl, rfl⟩
    | succ i => exact strs_at r h
theorem strs_len : ∀ {vs : List Value} {xs : List Str}, StrsAre vs xs → vs.length = xs.length
  | _, _, .nil => rfl
  | _, _, .cons y t r => congrArg Nat.succ (strs_len r)
end
section
variable {X : Cx}
/-- len(found) -/
theorem cr_lenTS : CallR X (.builtin "len") (fun vs H Q => ∃ (a : Addr) (l : List Str), vs = [V.ref a] ∧ H a = some (TSO X.w a l) ∧ Q (.int (l.length : Int)) H) := by
  intro pins s σ H vs us Q I r h
  obtain ⟨a, l, rfl, ha, q⟩ := h
  rw [Vals.ref1 r]
  obtain ⟨o, es, ep, t, ho, hex, hd, T⟩ := tso_get I ha
  have hs := T.size
  have hf := T.few
  have h4 : scanBound = 4096 := rfl
  refine PySem.call_len_set ho hex hd T.fit (by omega) ⟨.int _, H, I.tok _, ?_, q⟩
  rw [hs]
  exact ⟨_, rfl⟩
end
end
/-! ### own classes: o[i], o[i] = v, x in o -/
section
open PySem PySem.Spec PyProof.Rows
variable {X : Cx} {CX : CXT} {k : Nat} {C f a dx : Addr} {fs : List (Str × V)} {fd : FuncData} {ps : List Str} {sp : Sp} {E : L2.St → XK} {pins : List (Addr × Obj)} {σ : L2.St} {H : Hp} {s : Shared}
theorem own_at (I : Inv X pins σ H s) (ea : H a = some (.ins C dx fs)) : ∃ od, PySem.W.InstAt s.heap a (PySem.W.instObj C dx) C (some od) := by
  obtain ⟨mA, O, _⟩ := ins_get I.hok ea
  obtain ⟨od, J, _⟩ := O.look
  exact ⟨od, J⟩
/-- a method of the class, called below the place -/
theorem run_in1 {us : List Value} {vs : List V} {Q : VK} (F : FnOk X.prog X.w X.K X.mg X.base CX k f fd ps sp) (hr : Room (k + 1) X.A) (hb : L2.Binds X.K fd ps []) (hx : PassesAt CX X σ (E σ)) (I : Inv X pins σ H s) (r : Vals vs us) (h : sp vs H Q (E σ)) :
    wpAny (model X.prog X.w) X.A.in1 (call (.ref f) us) (EP X pins σ Q) X.xe s := by
  have hl : (us ++ []).length = ps.length := by rw [List.append_nil, ← r.length]; exact F.len _ _ _ _ h
  have b := hb s us I.kIn hl
  rw [List.append_nil] at b
  refine wpAny_call (codeAny_mono (F.run X.A.in1 X.stack s H ⟨us, []⟩ us vs Q (E σ) hr.in1 I.env0.in1 b r h) fun q s' hq => ?_)
  match q, hq with
  | .error e, hq => exact hx pins H s e s' I hq
  | .ok (.ret u), hq => exact I.after hq
  | .ok .next, hq => exact hq.elim
  | .ok .brk, hq => exact hq.elim
  | .ok .cont, hq => exact hq.elim
theorem run_here {us : List Value} {vs : List V} {Q : VK} (F : FnOk X.prog X.w X.K X.mg X.base CX k f fd ps sp) (hr : Room k X.A) (hb : L2.Binds X.K fd ps []) (hx : PassesAt CX X σ (E σ)) (I : Inv X pins σ H s) (r : Vals vs us) (h : sp vs H Q (E σ)) :
    wpAny (model X.prog X.w) X.A (call (.ref f) us) (EP X pins σ Q) X.xe s := by
  have e0 : vs ++ ([] : List V) = vs := List.append_nil vs
  exact run_fnSD (dvs := []) F hr hb .nil hx I r (e0.symm ▸ h)
def tGetO (C : Addr) (sp : Sp) (E : L2.St → XK) (ta tb : TE) : TE := fun σ H Q => ta σ H fun x H1 => tb σ H1 fun y H2 => ∃ a dx fs, x = .ref a ∧ H2 a = some (.ins C dx fs) ∧ sp [.ref a, y] H2 Q (E σ)
theorem pe_getO {o i : Expr} {ta tb : TE} {pos : Pos} (ho : PE X o ta) (hi : PE X i tb) (hm : Meth X.K C "__getitem__" f) (hfn : PySem.W.fnIn X.K f = true) (F : FnOk X.prog X.w X.K X.mg X.base CX k f fd ps sp) (hr : Room (k + 1) X.A) (hb : L2.Binds X.K fd ps []) (hx : ∀ σ, PassesAt CX X σ (E σ))
    (hsl : ∀ v u, subscripted i true v u = runValue (.builtin "lifetime.subscript" ⟨[v, u], []⟩) := by intro _ _; with_unfolding_all rfl) : PE X (.Subscript o i pos) (tGetO C sp E ta tb) := by
  refine ⟨fun pins s σ H Q I h => ?_⟩
  refine Subscript_ (binT ho hi I h fun v u s2 x y H2 I2 rx ry q => ?_)
  obtain ⟨a, dx, fs, rfl, ea, q⟩ := q
  cases (show v = Value.ref a from rx)
  obtain ⟨od, J⟩ := own_at I2 ea
  have fi := hm.fn
  unfold PySem.W.fnIn at hfn
  split at hfn
  · rename_i e
    unfold subscriptTail getitemInPython
    refine wpAny_bind (wpAny_bind (wpAny_bind (J.type.here ((PySem.W.looks_findIn I2.kIn hm.at_).here ?_))))
    dsimp only
    refine wpAny_bind (wpAny_load (I2.kIn _ _ e) (wpAny_pure ?_))
    dsimp only
    rw [hsl]
    refine wpAny_bind (wpAny_runValue (codeAny_builtin PySem.W.entry_sub ?_))
    unfold Builtin.«lifetime.subscript»
    refine wpAny_bind (PySem.W.special_fn I2.kIn J hm.at_ (beq_iff_eq.mp fi) (wpAny_mono (run_in1 F hr hb (hx σ) I2 (vs := [.ref a, y]) (.cons rfl (.cons ry .nil)) q) (fun z s3 hz => wpAny_pure ?_) fun _ _ z => z))
    show wpAny (model X.prog X.w) X.A (letTemporaryGo o (.ref a) z >>= fun _ => pure z) _ _ s3
    exact wpAny_bind (wpAny_letTemporaryGo (wpAny_pure hz))
  · cases hfn
def gSetO (C : Addr) (sp : Sp) (E : L2.St → XK) (to ti : TE) : TG := fun v σ H Q => to σ H fun o H1 => ti σ H1 fun i H2 => ∃ a dx fs, o = .ref a ∧ H2 a = some (.ins C dx fs) ∧ sp [.ref a, i, v] H2 (fun _ H3 => Q σ H3) (E σ)
theorem pg_setO {o i : Expr} {to ti : TE} {pos : Pos} (ho : PE X o to) (hi : PE X i ti) (hm : Meth X.K C "__setitem__" f) (hq : PySem.W.noSeq X.K C = true) (F : FnOk X.prog X.w X.K X.mg X.base CX k f fd ps sp) (hr : Room k X.A) (hb : L2.Binds X.K fd ps []) (hx : ∀ σ, PassesAt CX X σ (E σ))
    (ha : ∀ v, assign (.Subscript o i pos) X.env v = (do
      let ov ← holding [v] (eval o X.env)
      let iv ← holding [v, ov] (eval i X.env)
      standAt pos
      holding [v, ov, iv] (setItem ov iv v)
      release [v, ov, iv] []) := by intro _; rfl) : PG X (.Subscript o i pos) (gSetO C sp E to ti) := by
  refine ⟨fun pins s σ H v u Q I r h => ?_⟩
  rw [ha]
  refine wpAny_bind (wpAny_holding (thn (ho.run pins s σ H _ I h) fun ov s1 ⟨x, H1, I1, r1, q1⟩ => wpAny_bind (wpAny_holding (thn (hi.run pins s1 σ H1 _ I1 q1) fun iv s2 ⟨y, H2, I2, r2, a, dx, fs, ex, ea, q2⟩ => ?_))))
  subst ex
  cases (show ov = Value.ref a from r1)
  obtain ⟨od, J⟩ := own_at I2 ea
  refine wpAny_bind (wpAny_standAt (wpAny_bind (wpAny_holding ?_)))
  unfold setItem sequenceKey
  refine wpAny_holding (wpAny_bind (wpAny_bind (J.type.here (wpAny_bind ((PySem.W.anyM_none I2.kIn hq).here ?_)))))
  rw [if_pos (show (!false) = true from rfl)]
  refine wpAny_pure (wpAny_bind (PySem.W.special_fn I2.kIn J hm.at_ (beq_iff_eq.mp hm.fn) (wpAny_mono (run_here F hr hb (hx σ) I2 (vs := [.ref a, y, v]) (.cons rfl (.cons r2 (.cons r .nil))) q2) (fun z s3 hz => wpAny_pure ?_) fun _ _ z => z)))
  obtain ⟨_, H3, I3, _, q3⟩ := hz
  exact wpAny_release ⟨σ, H3, I3, q3⟩
/-- x in o; x not in o: __contains__ gives a truth value -/
def rInO (C : Addr) (neg : Bool) (sp : Sp) : R2 := fun x y H Q => ∃ a dx fs, y = .ref a ∧ H a = some (.ins C dx fs) ∧ sp [.ref a, x] H (fun v H' => ∃ b, v = .bl b ∧ Q (.bl (if neg = true then !b else b)) H') E0
theorem has_own {Q : Bool → Shared → Prop} {x : V} {v : Value} (I : Inv X pins σ H s) (rx : RelV x v) (ea : H a = some (.ins C dx fs)) (hm : Meth X.K C "__contains__" f) (F : FnOk X.prog X.w X.K X.mg X.base CX0 k f fd ps sp) (hr : Room k X.A) (hb : L2.Binds X.K fd ps []) {Qb : Bool → Hp → Prop}
    (h : sp [.ref a, x] H (fun v H' => ∃ b, v = .bl b ∧ Qb b H') E0) (hQ : ∀ b s' H', Inv X pins σ H' s' → Qb b H' → Q b s') : wpAny (model X.prog X.w) X.A (contains (.ref a) v) Q X.xe s := by
  obtain ⟨od, J⟩ := own_at I ea
  unfold contains
  refine wpAny_holding (wpAny_bind (wpAny_bind (J.type.here ((PySem.W.looks_findIn I.kIn hm.at_).here ?_))))
  rw [if_neg (by simp)]
  refine wpAny_bind (PySem.W.unlessNone_K I.kIn J hm.at_ hm.fn (wpAny_mono (run_here (E := fun _ => E0) F hr hb (fun _ _ _ _ _ _ z => z.elim) I (vs := [.ref a, x]) (.cons rfl (.cons rx .nil)) h) (fun z s3 hz => ?_) fun _ _ z => z))
  obtain ⟨w, H3, I3, rw', b, rfl, q⟩ := hz
  cases (show z = Value.bool b from rw')
  exact wpAny_truthy_bool (hQ b s3 H3 I3 q)
theorem op_inO (hm : Meth X.K C "__contains__" f) (F : FnOk X.prog X.w X.K X.mg X.base CX0 k f fd ps sp) (hr : Room k X.A) (hb : L2.Binds X.K fd ps []) : OpR X (compareOp .In) (rInO C false sp) := by
  intro pins s σ H x y v u Q I rx ry h
  obtain ⟨a, dx, fs, rfl, ea, q⟩ := h
  cases (show u = Value.ref a from ry)
  exact wpAny_bind (has_own I rx ea hm F hr hb (Qb := fun b H' => Q (.bl b) H') q fun b s' H' I' q' => wpAny_pure ⟨.bl b, H', I', rfl, q'⟩)
theorem op_notInO (hm : Meth X.K C "__contains__" f) (F : FnOk X.prog X.w X.K X.mg X.base CX0 k f fd ps sp) (hr : Room k X.A) (hb : L2.Binds X.K fd ps []) : OpR X (compareOp .NotIn) (rInO C true sp) := by
  intro pins s σ H x y v u Q I rx ry h
  obtain ⟨a, dx, fs, rfl, ea, q⟩ := h
  cases (show u = Value.ref a from ry)
  exact wpAny_bind (has_own I rx ea hm F hr hb (Qb := fun b H' => Q (.bl (!b)) H') q fun b s' H' I' q' => wpAny_pure ⟨.bl (!b), H', I', rfl, q'⟩)
theorem passL0 {X : Cx} {σ : L2.St} : PassesAt (L2.CX X.prog X.w) X σ E0 := fun pins H s e s' I c => passL pins σ H s e s' I c
end
/-! ### rules within a comprehension: the text's K by name -/
section
variable {X : Cx} {K : PySem.W.Frag}
theorem pe_fldK {o : Expr} {f : Str} {pos : Pos} {ta : TE} (hK : X.K = K) (ho : PE X o ta) (hab : attributeBase o f X.env (eval o X.env) = eval o X.env) : PE X (.Attribute o f pos) (tFld K ta f) := hK ▸ pe_fld ho hab
theorem op_inK (hK : X.K = K) : OpR X (compareOp .In) (rIn K false) := hK ▸ op_in_seq
theorem op_notInK (hK : X.K = K) : OpR X (compareOp .NotIn) (rIn K true) := hK ▸ op_notIn_seq
theorem ix_listK (hK : X.K = K) : IxR X (rIxL K) := hK ▸ ix_list
theorem ix_tupK (hK : X.K = K) : IxR X (rIxT K) := hK ▸ ix_tup
theorem op_eqDK (hK : X.K = K) (hu : X.A.units + 64 < cLine) : OpR X (compareOp .Eq) (rEqD K) := hK ▸ op_eqD hu
theorem op_neDK (hK : X.K = K) (hu : X.A.units + 64 < cLine) : OpR X (compareOp .NotEq) (rNeD K) := hK ▸ op_neD hu
end
/-! ### lists, the last item first -/
def rv {α : Type} (f : α → V) (l : List α) : List V := (l.map f).reverse
section
variable {α : Type} {f : α → V} {x y : α} {l : List α}
theorem rv_cons : rv f (x :: l) = rv f l ++ [f x] := by simp [rv]
theorem rv_len : (rv f l).length = l.length := by simp [rv]
theorem rv_at : atI (rv f (x :: l)) (-1) = some (f x) := by
  unfold atI ixN
  rw [rv_cons]
  have h1 : ¬ (0 : Int) ≤ -1 := by omega
  have h2 : -((rv f l ++ [f x]).length : Int) ≤ -1 := by rw [List.length_append]; simp; omega
  have h3 : ((-1 : Int) + ((rv f l ++ [f x]).length : Int)).toNat = (rv f l).length := by rw [List.length_append, List.length_singleton]; omega
  simp only [h1, if_false, h2, if_true, Option.bind_some, h3]
  rw [List.getElem?_append_right (Nat.le_refl _), Nat.sub_self]; rfl
theorem rv_ix : ixN (rv f (x :: l)).length (-1) = some l.length := by
  unfold ixN
  rw [rv_len]
  have h1 : ¬ (0 : Int) ≤ -1 := by omega
  have h2 : -((x :: l).length : Int) ≤ -1 := by rw [List.length_cons]; omega
  have h3 : ((-1 : Int) + ((x :: l).length : Int)).toNat = l.length := by rw [List.length_cons]; omega
  simp only [h1, if_false, h2, if_true, h3]
theorem rv_set : (rv f (x :: l)).set l.length (f y) = rv f (y :: l) := by
  rw [rv_cons, rv_cons, ← rv_len (f := f) (l := l), List.set_append_right _ _ (Nat.le_refl _), Nat.sub_self]; rfl
theorem rv_pop : (rv f (x :: l))[(rv f (x :: l)).length - 1]? = some (f x) := by
  rw [rv_len, rv_cons, List.length_cons, Nat.add_sub_cancel, ← rv_len (f := f) (l := l), List.getElem?_append_right (Nat.le_refl _), Nat.sub_self]; rfl
theorem rv_drop : (rv f (x :: l)).dropLast = rv f l := by
  rw [rv_cons, List.dropLast_concat]
end
inductive All2 {α β : Type} (R : α → β → Prop) : List α → List β → Prop
  | nil : All2 R [] []
  | cons {x y l m} : R x y → All2 R l m → All2 R (x :: l) (y :: m)
theorem All2.imp {α β : Type} {R S : α → β → Prop} {l : List α} {m : List β} (a : All2 R l m) (h : ∀ x y, x ∈ l → R x y → S x y) : All2 S l m := by
  induction a with
  | nil => exact .nil
  | cons r _ ih => exact .cons (h _ _ List.mem_cons_self r) (ih fun x y hx => h x y (List.mem_cons_of_mem _ hx))
theorem All2.mem {α β : Type} {R : α → β → Prop} {l : List α} {m : List β} (a : All2 R l m) {x : α} (h : x ∈ l) : ∃ y, y ∈ m ∧ R x y := by
  induction a with
  | nil => cases h
  | cons r _ ih =>
    rcases List.mem_cons.mp h with rfl | h
    · exact ⟨_, List.mem_cons_self, r⟩
    · obtain ⟨y, h1, h2⟩ := ih h
      exact ⟨y, List.mem_cons_of_mem _ h1, h2⟩
theorem All2.len {α β : Type} {R : α → β → Prop} {l : List α} {m : List β} (a : All2 R l m) : l.length = m.length := by
  induction a with
  | nil => rfl
  | cons _ _ ih => rw [List.length_cons, List.length_cons, ih]
/-! ### a database: its state, where it lies -/
structure Tx where
  num : Int
  rs : List (Option Str)
structure Row where
  rcd : Str
  val : V
  fate : Str
  holder : Int
  level : Int
structure Db where
  rows : List Row
  stack : List (Option Tx)
  entered : List Str
  floor : Int
  opened : Int
structure TxL where
  t : Addr
  dt : Addr
  q : Addr
structure Lay where
  db : Addr
  dx : Addr
  r : Addr
  s : Addr
  e : Addr
  ws : List (Addr × Addr)
  ts : List (Option TxL)
def oV : Option Str → V
  | none => .non
  | some z => .str z
def tV : Option TxL → V
  | none => .non
  | some t => .ref t.t
abbrev dbF (r s e : Addr) (f o : Int) : List (Str × V) := [("rows", .ref r), ("stack", .ref s), ("entered", .ref e), ("floor", .int f), ("opened", .int o)]
abbrev txF (n : Int) (q : Addr) : List (Str × V) := [("number", .int n), ("reasons", .ref q)]
abbrev rwF (w : Row) : List (Str × V) := [("record", .str w.rcd), ("value", w.val), ("fate", .str w.fate), ("holder", .int w.holder), ("level", .int w.level)]
def TxAt (aT : Addr) (H : Hp) : Option TxL → Option Tx → Prop
  | none, none => True
  | some t, some x => H t.t = some (.ins aT t.dt (txF x.num t.q)) ∧ H t.q = some (.lst (rv oV x.rs)) ∧ x.rs ≠ []
  | _, _ => False
def RowAt (aW : Addr) (H : Hp) (w : Addr × Addr) (x : Row) : Prop := H w.1 = some (.ins aW w.2 (rwF x))
structure DbAt (aD aT aW : Addr) (H : Hp) (L : Lay) (D : Db) : Prop where
  db : H L.db = some (.ins aD L.dx (dbF L.r L.s L.e D.floor D.opened))
  r : H L.r = some (.lst (L.ws.map fun w => .ref w.1))
  s : H L.s = some (.lst (rv tV L.ts))
  e : H L.e = some (.lst (rv V.str D.entered))
  rows : All2 (RowAt aW H) L.ws D.rows
  txs : All2 (TxAt aT H) L.ts D.stack
  rs : L.r ≠ L.s
  re : L.r ≠ L.e
  se : L.s ≠ L.e
  qn : ∀ t, some t ∈ L.ts → t.q ≠ L.r ∧ t.q ≠ L.s ∧ t.q ≠ L.e
  qd : L.ts.Pairwise fun x y => ∀ t u, x = some t → y = some u → t.q ≠ u.q
  wd : L.ws.Pairwise fun x y => x.1 ≠ y.1
  ne : D.stack ≠ []
/-- what may change -/
def Mut (L : Lay) (b : Addr) : Prop := b = L.db ∨ b = L.r ∨ b = L.s ∨ b = L.e ∨ (∃ t, some t ∈ L.ts ∧ b = t.q) ∨ ∃ w, w ∈ L.ws ∧ b = w.1
/-- all of it -/
def Foot (L : Lay) (b : Addr) : Prop := Mut L b ∨ ∃ t, some t ∈ L.ts ∧ b = t.t
structure Fr (H H' : Hp) (L L' : Lay) : Prop where
  kp : Kp (Mut L) H H'
  mt : ∀ b, Mut L' b → Mut L b ∨ H b = none
  db : L'.db = L.db
theorem Fr.refl {H : Hp} {L : Lay} : Fr H H L L := ⟨Kp.refl, fun _ h => .inl h, rfl⟩
theorem Fr.trans {H H1 H2 : Hp} {L L1 L2 : Lay} (a : Fr H H1 L L1) (b : Fr H1 H2 L1 L2) : Fr H H2 L L2 := by
  refine ⟨fun c u h n => ?_, fun c h => ?_, b.db.trans a.db⟩
  · refine b.kp c u (a.kp c u h n) fun z => ?_
    rcases a.mt c z with z | z
    · exact n z
    · rw [z] at h; cases h
  · rcases b.mt c h with z | z
    · exact a.mt c z
    · cases e : H c with
      | none => exact .inr rfl
      | some u =>
        by_cases hm : Mut L c
        · exact .inl hm
        · rw [a.kp c u e hm] at z; cases z
theorem Fr.of_kp {H H' : Hp} {L : Lay} (k : Kp (Mut L) H H') : Fr H H' L L := ⟨k, fun _ h => .inl h, rfl⟩
theorem Fr.new {H H' : Hp} {L L' : Lay} {p : Addr} {o : HO} (a : Fr H H' L L') (h : H' p = none) : Fr H (upd H' p o) L L' := ⟨a.kp.new h, a.mt, a.db⟩
/-- q is none of what may change -/
theorem Fr.out {H H' : Hp} {L L' : Lay} {b : Addr} {u : HO} (a : Fr H H' L L') (h : H b = some u) (n : ¬ Mut L b) : ¬ Mut L' b := fun z => by
  rcases a.mt b z with z | z
  · exact n z
  · rw [h] at z; cases z
section
variable {aD aT aW : Addr} {H H' : Hp} {L : Lay} {D : Db}
theorem TxAt.keep {x : Option TxL} {y : Option Tx} (h : TxAt aT H x y) (k : ∀ t, x = some t → (∀ u, H t.t = some u → H' t.t = some u) ∧ ∀ u, H t.q = some u → H' t.q = some u) : TxAt aT H' x y := by
  cases x with
  | none => cases y with
    | none => trivial
    | some y => exact h
  | some t => cases y with
    | none => exact h
    | some y =>
      obtain ⟨h1, h2, h3⟩ := h
      obtain ⟨k1, k2⟩ := k t rfl
      exact ⟨k1 _ h1, k2 _ h2, h3⟩
theorem DbAt.keep (h : DbAt aD aT aW H L D) (k : ∀ b u, Foot L b → H b = some u → H' b = some u) : DbAt aD aT aW H' L D := by
  refine ⟨k _ _ (.inl (.inl rfl)) h.db, k _ _ (.inl (.inr (.inl rfl))) h.r, k _ _ (.inl (.inr (.inr (.inl rfl)))) h.s, k _ _ (.inl (.inr (.inr (.inr (.inl rfl))))) h.e, ?_, ?_, h.rs, h.re, h.se, h.qn, h.qd, h.wd, h.ne⟩
  · exact h.rows.imp fun w x hw hx => k _ _ (.inl (.inr (.inr (.inr (.inr (.inr ⟨w, hw, rfl⟩)))))) hx
  · refine h.txs.imp fun x y hx hy => hy.keep fun t et => ?_
    subst et
    exact ⟨fun u => k _ u (.inr ⟨t, hx, rfl⟩), fun u => k _ u (.inl (.inr (.inr (.inr (.inr (.inl ⟨t, hx, rfl⟩))))))⟩
theorem DbAt.new {p : Addr} {o : HO} (h : DbAt aD aT aW H L D) (hp : H p = none) : DbAt aD aT aW (upd H p o) L D := h.keep fun b u _ e => upd_old e hp
theorem DbAt.tx (h : DbAt aD aT aW H L D) {t : TxL} (m : some t ∈ L.ts) : ∃ x : Tx, H t.t = some (.ins aT t.dt (txF x.num t.q)) ∧ H t.q = some (.lst (rv oV x.rs)) ∧ x.rs ≠ [] := by
  obtain ⟨y, _, hy⟩ := h.txs.mem m
  cases y with
  | none => exact hy.elim
  | some x => exact ⟨x, hy⟩
theorem DbAt.row (h : DbAt aD aT aW H L D) {w : Addr × Addr} (m : w ∈ L.ws) : ∃ x : Row, H w.1 = some (.ins aW w.2 (rwF x)) := by
  obtain ⟨y, _, hy⟩ := h.rows.mem m
  exact ⟨y, hy⟩
/-- what may change, is there -/
theorem DbAt.mut (h : DbAt aD aT aW H L D) {b : Addr} (m : Mut L b) : ∃ u, H b = some u := by
  rcases m with rfl | rfl | rfl | rfl | ⟨t, m, rfl⟩ | ⟨w, m, rfl⟩
  · exact ⟨_, h.db⟩
  · exact ⟨_, h.r⟩
  · exact ⟨_, h.s⟩
  · exact ⟨_, h.e⟩
  · obtain ⟨x, _, h2, _⟩ := h.tx m
    exact ⟨_, h2⟩
  · obtain ⟨x, h1⟩ := h.row m
    exact ⟨_, h1⟩
theorem DbAt.fresh (h : DbAt aD aT aW H L D) {b : Addr} (e : H b = none) : ¬ Mut L b := fun z => by
  obtain ⟨u, e2⟩ := h.mut z
  rw [e] at e2; cases e2
/-- a list that is none of its own changes -/
theorem DbAt.oth {p : Addr} {o : HO} {xs : List V} (h : DbAt aD aT aW H L D) (hp : H p = some (.lst xs)) (n : ¬ Mut L p) : DbAt aD aT aW (upd H p o) L D := h.keep fun b u f e => by
  refine upd_oth (fun z => ?_) e
  subst z
  rcases f with f | ⟨t, m, rfl⟩
  · exact n f
  · obtain ⟨x, h1, _⟩ := h.tx m
    rw [hp] at h1; cases h1
theorem DbAt.mutE : Mut L L.e := .inr (.inr (.inr (.inl rfl)))
theorem DbAt.mutS : Mut L L.s := .inr (.inr (.inl rfl))
theorem DbAt.mutD : Mut L L.db := .inl rfl
theorem DbAt.mutQ {t : TxL} (h : some t ∈ L.ts) : Mut L t.q := .inr (.inr (.inr (.inr (.inl ⟨t, h, rfl⟩))))
theorem ins_ne {b p C dx : Addr} {fs : List (Str × V)} {xs : List V} (h1 : H b = some (.ins C dx fs)) (h2 : H p = some (.lst xs)) : b ≠ p := fun z => by
  rw [z, h2] at h1; cases h1
theorem DbAt.rowsQ {p : Addr} {o : HO} {xs : List V} (h : DbAt aD aT aW H L D) (hp : H p = some (.lst xs)) : All2 (RowAt aW (upd H p o)) L.ws D.rows :=
  h.rows.imp fun w x hw hx => upd_oth (ins_ne hx hp) hx
theorem DbAt.txsQ {p : Addr} {o : HO} {xs : List V} (h : DbAt aD aT aW H L D) (hp : H p = some (.lst xs)) (n : ∀ t, some t ∈ L.ts → t.q ≠ p) : All2 (TxAt aT (upd H p o)) L.ts D.stack :=
  h.txs.imp fun x y hx hy => hy.keep fun t et => by
    subst et
    obtain ⟨z, h1, _⟩ := h.tx hx
    exact ⟨fun u e => upd_oth (ins_ne h1 hp) e, fun u e => upd_oth (n t hx) e⟩
theorem DbAt.setE (h : DbAt aD aT aW H L D) (es : List Str) : DbAt aD aT aW (upd H L.e (.lst (rv V.str es))) L { D with entered := es } :=
  ⟨upd_oth (ins_ne h.db h.e) h.db, upd_oth h.re h.r, upd_oth h.se h.s, upd_same, h.rowsQ h.e, h.txsQ h.e fun t m => (h.qn t m).2.2, h.rs, h.re, h.se, h.qn, h.qd, h.wd, h.ne⟩
theorem DbAt.setS (h : DbAt aD aT aW H L D) {ts : List (Option TxL)} {st : List (Option Tx)} (a : All2 (TxAt aT (upd H L.s (.lst (rv tV ts)))) ts st) (qn : ∀ t, some t ∈ ts → t.q ≠ L.r ∧ t.q ≠ L.s ∧ t.q ≠ L.e) (qd : ts.Pairwise fun x y => ∀ t u, x = some t → y = some u → t.q ≠ u.q) (ne : st ≠ []) :
    DbAt aD aT aW (upd H L.s (.lst (rv tV ts))) { L with ts := ts } { D with stack := st } :=
  ⟨upd_oth (ins_ne h.db h.s) h.db, upd_oth h.rs h.r, upd_same, upd_oth (Ne.symm h.se) h.e, h.rowsQ h.s, a, h.rs, h.re, h.se, qn, qd, h.wd, ne⟩
theorem DbAt.pushN (h : DbAt aD aT aW H L D) : DbAt aD aT aW (upd H L.s (.lst (rv tV (none :: L.ts)))) { L with ts := none :: L.ts } { D with stack := none :: D.stack } := by
  refine h.setS (.cons trivial (h.txsQ h.s fun t m => (h.qn t m).2.1)) (fun t m => ?_) ?_ (by simp)
  · rcases List.mem_cons.mp m with m | m
    · cases m
    · exact h.qn t m
  · exact List.pairwise_cons.mpr ⟨fun y _ t u e => (by cases e), h.qd⟩
theorem DbAt.pushT (h : DbAt aD aT aW H L D) {t : TxL} {n : Int} {rs : List (Option Str)} (h1 : H t.t = some (.ins aT t.dt (txF n t.q))) (h2 : H t.q = some (.lst (rv oV rs))) (hr : rs ≠ []) (hn : ¬ Mut L t.q) :
    DbAt aD aT aW (upd H L.s (.lst (rv tV (some t :: L.ts)))) { L with ts := some t :: L.ts } { D with stack := some ⟨n, rs⟩ :: D.stack } := by
  have ns : t.q ≠ L.s := fun z => hn (z ▸ DbAt.mutS)
  refine h.setS (.cons ⟨upd_oth (ins_ne h1 h.s) h1, upd_oth ns h2, hr⟩ (h.txsQ h.s fun t m => (h.qn t m).2.1)) (fun u m => ?_) ?_ (by simp)
  · rcases List.mem_cons.mp m with m | m
    · cases m
      exact ⟨fun z => hn (.inr (.inl z)), ns, fun z => hn (z ▸ DbAt.mutE)⟩
    · exact h.qn u m
  · refine List.pairwise_cons.mpr ⟨fun y hy u v e1 e2 z => ?_, h.qd⟩
    cases e1
    subst e2
    exact hn (z ▸ DbAt.mutQ hy)
theorem DbAt.popS {t : Option TxL} {ts : List (Option TxL)} {x : Option Tx} {st : List (Option Tx)} (h : DbAt aD aT aW H L D) (et : L.ts = t :: ts) (es : D.stack = x :: st) (ne : st ≠ []) :
    DbAt aD aT aW (upd H L.s (.lst (rv tV ts))) { L with ts := ts } { D with stack := st } := by
  have a : All2 (TxAt aT (upd H L.s (.lst (rv tV ts)))) (t :: ts) (x :: st) := by
    have := h.txsQ (o := .lst (rv tV ts)) h.s fun t m => (h.qn t m).2.1
    rw [et, es] at this; exact this
  cases a with
  | cons _ a =>
    refine h.setS a (fun u m => h.qn u (by rw [et]; exact List.mem_cons_of_mem _ m)) ?_ ne
    have := h.qd
    rw [et] at this
    exact (List.pairwise_cons.mp this).2
theorem DbAt.setD (h : DbAt aD aT aW H L D) (f o : Int) : DbAt aD aT aW (upd H L.db (.ins aD L.dx (dbF L.r L.s L.e f o))) L { D with floor := f, opened := o } := by
  refine ⟨upd_same, upd_oth (Ne.symm (ins_ne h.db h.r)) h.r, upd_oth (Ne.symm (ins_ne h.db h.s)) h.s, upd_oth (Ne.symm (ins_ne h.db h.e)) h.e, ?_, ?_, h.rs, h.re, h.se, h.qn, h.qd, h.wd, h.ne⟩
  · refine h.rows.imp fun w x hw hx => upd_oth (fun z => ?_) hx
    unfold RowAt at hx
    rw [z, h.db] at hx
    injection hx with hx
    injection hx with _ _ hx
    exact absurd (congrArg Prod.fst (List.cons.inj hx).1) (show ¬ (("rows" : Str) = "record") by decide +kernel)
  · refine h.txs.imp fun x y hx hy => hy.keep fun t et => ?_
    subst et
    obtain ⟨z, h1, h2, _⟩ := h.tx hx
    refine ⟨fun u e => upd_oth (fun z => ?_) e, fun u e => upd_oth (Ne.symm (ins_ne h.db h2)) e⟩
    rw [z, h.db] at h1
    injection h1 with h1
    injection h1 with _ _ h1
    exact absurd (congrArg List.length h1) (by simp)
theorem DbAt.setQ {t : TxL} {ts : List (Option TxL)} {x : Tx} {st : List (Option Tx)} {rs : List (Option Str)} (h : DbAt aD aT aW H L D) (et : L.ts = some t :: ts) (es : D.stack = some x :: st) (hr : rs ≠ []) :
    DbAt aD aT aW (upd H t.q (.lst (rv oV rs))) L { D with stack := some ⟨x.num, rs⟩ :: st } := by
  have mt : some t ∈ L.ts := by rw [et]; exact List.mem_cons_self
  have a := h.txs
  rw [et, es] at a
  cases a with
  | cons a0 a =>
    obtain ⟨h1, h2, h3⟩ := a0
    obtain ⟨n1, n2, n3⟩ := h.qn t mt
    have qd := h.qd
    rw [et] at qd
    obtain ⟨qd1, _⟩ := List.pairwise_cons.mp qd
    refine ⟨upd_oth (ins_ne h.db h2) h.db, upd_oth (Ne.symm n1) h.r, upd_oth (Ne.symm n2) h.s, upd_oth (Ne.symm n3) h.e, h.rowsQ h2, ?_, h.rs, h.re, h.se, h.qn, h.qd, h.wd, by simp⟩
    rw [et]
    refine .cons ⟨upd_oth (ins_ne h1 h2) h1, upd_same, hr⟩ (a.imp fun z y hz hy => hy.keep fun u eu => ?_)
    subst eu
    obtain ⟨z, k1, _⟩ := h.tx (t := u) (by rw [et]; exact List.mem_cons_of_mem _ hz)
    exact ⟨fun o e => upd_oth (ins_ne k1 h2) e, fun o e => upd_oth (fun z => qd1 _ hz t u rfl rfl z.symm) e⟩
theorem Fr.set {b : Addr} {o : HO} (m : Mut L b) : Fr H (upd H b o) L L := .of_kp (Kp.refl.set m)
theorem Mut.ts {ts : List (Option TxL)} {b : Addr} (h : Mut { L with ts := ts } b) (k : ∀ t, some t ∈ ts → b = t.q → Mut L b ∨ H b = none) : Mut L b ∨ H b = none := by
  rcases h with h | h | h | h | ⟨t, m, h⟩ | h
  · exact .inl (.inl h)
  · exact .inl (.inr (.inl h))
  · exact .inl (.inr (.inr (.inl h)))
  · exact .inl (.inr (.inr (.inr (.inl h))))
  · exact k t m h
  · exact .inl (.inr (.inr (.inr (.inr (.inr h)))))
theorem Fr.pushT {t : TxL} {o : HO} (k : Kp (Mut L) H H') (hq : H t.q = none) : Fr H (upd H' L.s o) L { L with ts := some t :: L.ts } := by
  refine ⟨k.set DbAt.mutS, fun b hb => hb.ts fun u m e => ?_, rfl⟩
  rcases List.mem_cons.mp m with m | m
  · cases m
    exact .inr (e ▸ hq)
  · exact .inl (e ▸ DbAt.mutQ m)
theorem Fr.pushN {o : HO} : Fr H (upd H L.s o) L { L with ts := none :: L.ts } := by
  refine ⟨Kp.refl.set DbAt.mutS, fun b hb => hb.ts fun u m e => ?_, rfl⟩
  rcases List.mem_cons.mp m with m | m
  · cases m
  · exact .inl (e ▸ DbAt.mutQ m)
theorem Fr.popS {t : Option TxL} {ts : List (Option TxL)} {o : HO} (et : L.ts = t :: ts) : Fr H (upd H L.s o) L { L with ts := ts } := by
  refine ⟨Kp.refl.set DbAt.mutS, fun b hb => hb.ts fun u m e => ?_, rfl⟩
  exact .inl (e ▸ DbAt.mutQ (by rw [et]; exact List.mem_cons_of_mem _ m))
theorem Fr.same (k : Same H H') : Fr H H' L L := .of_kp (.of_same k)
/-- the top: None or a transaction -/
theorem DbAt.top (h : DbAt aD aT aW H L D) : (∃ ts st, L.ts = none :: ts ∧ D.stack = none :: st) ∨
    ∃ t ts x st y rs, L.ts = some t :: ts ∧ D.stack = some x :: st ∧ x.rs = y :: rs ∧ H t.t = some (.ins aT t.dt (txF x.num t.q)) ∧ H t.q = some (.lst (rv oV (y :: rs))) := by
  have a := h.txs
  have n := h.ne
  generalize L.ts = ts0 at a
  generalize D.stack = st0 at a n
  cases a with
  | nil => exact absurd rfl n
  | @cons x y l m r a =>
    cases x with
    | none => cases y with
      | none => exact .inl ⟨_, _, rfl, rfl⟩
      | some y => exact r.elim
    | some t => cases y with
      | none => exact r.elim
      | some x =>
        obtain ⟨r1, r2, r3⟩ := r
        obtain ⟨num, rs⟩ := x
        cases rs with
        | nil => exact absurd rfl r3
        | cons y rs => exact .inr ⟨t, _, ⟨num, y :: rs⟩, _, y, rs, rfl, rfl, rfl, r1, r2⟩
end
/-! ### the rows of a database -/
theorem All2.get {α β : Type} {R : α → β → Prop} {l : List α} {m : List β} (a : All2 R l m) : ∀ {i : Nat} {x : α}, l[i]? = some x → ∃ y, m[i]? = some y ∧ R x y := by
  induction a with
  | nil => intro i x h; simp at h
  | cons r _ ih =>
    intro i x h
    cases i with
    | zero =>
      cases h
      exact ⟨_, rfl, r⟩
    | succ i => exact ih h
theorem All2.setR {α β : Type} {R S : α → β → Prop} {l : List α} {m : List β} (a : All2 R l m) : ∀ {i : Nat} {x : α} {y : β}, l[i]? = some x → S x y → (∀ j x' y', j ≠ i → l[j]? = some x' → R x' y' → S x' y') → All2 S l (m.set i y) := by
  induction a with
  | nil => intro i x y h; simp at h
  | @cons u v l m r t ih =>
    intro i x y h s k
    cases i with
    | zero =>
      cases h
      refine .cons s ?_
      have k' : ∀ j x' y', l[j]? = some x' → R x' y' → S x' y' := fun j x' y' e q => k (j + 1) x' y' (by omega) e q
      clear ih k
      induction t with
      | nil => exact .nil
      | cons r2 _ ih2 => exact .cons (k' 0 _ _ rfl r2) (ih2 fun j x' y' e q => k' (j + 1) x' y' e q)
    | succ i => exact .cons (k 0 _ _ (by omega) rfl r) (ih h s fun j x' y' n e q => k (j + 1) x' y' (by omega) e q)
theorem All2.snoc {α β : Type} {R : α → β → Prop} {l : List α} {m : List β} {x : α} {y : β} (a : All2 R l m) (r : R x y) : All2 R (l ++ [x]) (m ++ [y]) := by
  induction a with
  | nil => exact .cons r .nil
  | cons r' _ ih => exact .cons r' ih
section
variable {aD aT aW : Addr} {H H' : Hp} {L : Lay} {D : Db}
theorem row_ne_db {w : Addr × Addr} {x : Row} (h : DbAt aD aT aW H L D) (hx : H w.1 = some (.ins aW w.2 (rwF x))) : L.db ≠ w.1 := fun z => by
  rw [← z, h.db] at hx
  injection hx with hx
  injection hx with _ _ hx
  exact absurd (congrArg Prod.fst (List.cons.inj hx).1) (show ¬ (("rows" : Str) = "record") by decide +kernel)
theorem row_ne_tx {w : Addr × Addr} {x : Row} (h : DbAt aD aT aW H L D) (hx : H w.1 = some (.ins aW w.2 (rwF x))) {t : TxL} (m : some t ∈ L.ts) : t.t ≠ w.1 := fun z => by
  obtain ⟨y, h1, _⟩ := h.tx m
  rw [← z, h1] at hx
  injection hx with hx
  injection hx with _ _ hx
  exact absurd (congrArg List.length hx) (by simp)
theorem DbAt.mutW {w : Addr × Addr} (h : w ∈ L.ws) : Mut L w.1 := .inr (.inr (.inr (.inr (.inr ⟨w, h, rfl⟩))))
theorem DbAt.mutR : Mut L L.r := .inr (.inl rfl)
theorem DbAt.setRow {i : Nat} {w : Addr × Addr} {x' : Row} (h : DbAt aD aT aW H L D) (hw : L.ws[i]? = some w) : DbAt aD aT aW (upd H w.1 (.ins aW w.2 (rwF x'))) L { D with rows := D.rows.set i x' } := by
  obtain ⟨x, _, hx⟩ := h.rows.get hw
  have hx : H w.1 = some (.ins aW w.2 (rwF x)) := hx
  refine ⟨upd_oth (row_ne_db h hx) h.db, upd_oth (Ne.symm (ins_ne hx h.r)) h.r, upd_oth (Ne.symm (ins_ne hx h.s)) h.s, upd_oth (Ne.symm (ins_ne hx h.e)) h.e, ?_, ?_, h.rs, h.re, h.se, h.qn, h.qd, h.wd, h.ne⟩
  · refine h.rows.setR hw upd_same fun j v y n hv hy => upd_oth (fun z => ?_) hy
    have hi : i < L.ws.length := (List.getElem?_eq_some_iff.mp hw).1
    have hj : j < L.ws.length := (List.getElem?_eq_some_iff.mp hv).1
    have wi : L.ws[i] = w := (List.getElem?_eq_some_iff.mp hw).2
    have wj : L.ws[j] = v := (List.getElem?_eq_some_iff.mp hv).2
    rcases Nat.lt_or_gt_of_ne n with lt | gt
    · exact (List.pairwise_iff_getElem.mp h.wd j i hj hi lt) (by rw [wi, wj]; exact z)
    · exact (List.pairwise_iff_getElem.mp h.wd i j hi hj gt) (by rw [wi, wj]; exact z.symm)
  · refine h.txs.imp fun t y ht hy => hy.keep fun u eu => ?_
    subst eu
    obtain ⟨z, _, h2, _⟩ := h.tx ht
    exact ⟨fun o e => upd_oth (row_ne_tx h hx ht) e, fun o e => upd_oth (Ne.symm (ins_ne hx h2)) e⟩
theorem DbAt.addRow {w : Addr × Addr} {x : Row} (h : DbAt aD aT aW H L D) (hx : H w.1 = some (.ins aW w.2 (rwF x))) (hn : ¬ Mut L w.1) :
    DbAt aD aT aW (upd H L.r (.lst ((L.ws ++ [w]).map fun w => .ref w.1))) { L with ws := L.ws ++ [w] } { D with rows := D.rows ++ [x] } := by
  refine ⟨upd_oth (ins_ne h.db h.r) h.db, upd_same, upd_oth (Ne.symm h.rs) h.s, upd_oth (Ne.symm h.re) h.e, (h.rowsQ h.r).snoc (upd_oth (ins_ne hx h.r) hx), h.txsQ h.r fun t m => (h.qn t m).1, h.rs, h.re, h.se, h.qn, h.qd, ?_, h.ne⟩
  refine List.pairwise_append.mpr ⟨h.wd, List.pairwise_singleton _ _, fun v hv u hu => ?_⟩
  rcases List.mem_singleton.mp hu with rfl
  exact fun z => hn (z ▸ DbAt.mutW hv)
theorem Fr.addRow {w : Addr × Addr} {o : HO} (k : Kp (Mut L) H H') (hq : H w.1 = none) : Fr H (upd H' L.r o) L { L with ws := L.ws ++ [w] } := by
  refine ⟨k.set DbAt.mutR, fun b hb => ?_, rfl⟩
  rcases hb with hb | hb | hb | hb | hb | ⟨v, hv, hb⟩
  · exact .inl (.inl hb)
  · exact .inl (.inr (.inl hb))
  · exact .inl (.inr (.inr (.inl hb)))
  · exact .inl (.inr (.inr (.inr (.inl hb))))
  · exact .inl (.inr (.inr (.inr (.inr (.inl hb)))))
  · rcases List.mem_append.mp hv with hv | hv
    · exact .inl (hb ▸ DbAt.mutW hv)
    · rcases List.mem_singleton.mp hv with rfl
      exact .inr (hb ▸ hq)
end
/-! ### held records -/
def heldS (ns : List Int) (l : List Str) (x : Row) : List Str := if x.fate = "open" ∧ x.holder ∈ ns then addT x.rcd l else l
def heldL (rows : List Row) (ns : List Int) : List Str := rows.foldl (heldS ns) []
theorem held_fold (ns : List Int) : ∀ (rows : List Row) (l : List Str), (∀ k, k ∈ rows.foldl (heldS ns) l ↔ k ∈ l ∨ ∃ x ∈ rows, x.fate = "open" ∧ x.holder ∈ ns ∧ x.rcd = k) ∧ (l.Nodup → (rows.foldl (heldS ns) l).Nodup) ∧ (rows.foldl (heldS ns) l).length ≤ l.length + rows.length
  | [], l => ⟨fun k => by simp, id, by simp⟩
  | x :: r, l => by
    obtain ⟨h1, h2, h3⟩ := held_fold ns r (heldS ns l x)
    refine ⟨fun k => ?_, fun h => h2 ?_, ?_⟩
    · rw [List.foldl_cons, h1 k]
      have e : k ∈ heldS ns l x ↔ k ∈ l ∨ (x.fate = "open" ∧ x.holder ∈ ns ∧ x.rcd = k) := by
        unfold heldS
        split
        · rename_i c
          rw [addT_mem]
          exact ⟨fun z => z.elim (fun e => .inr ⟨c.1, c.2, e.symm⟩) .inl, fun z => z.elim .inr fun e => .inl e.2.2.symm⟩
        · rename_i c
          exact ⟨.inl, fun z => z.elim id fun e => absurd ⟨e.1, e.2.1⟩ c⟩
      rw [e]
      constructor
      · rintro ((h | h) | ⟨y, hy, h⟩)
        · exact .inl h
        · exact .inr ⟨x, List.mem_cons_self, h⟩
        · exact .inr ⟨y, List.mem_cons_of_mem _ hy, h⟩
      · rintro (h | ⟨y, hy, h⟩)
        · exact .inl (.inl h)
        · rcases List.mem_cons.mp hy with rfl | hy
          · exact .inl (.inr h)
          · exact .inr ⟨y, hy, h⟩
    · unfold heldS
      split
      · exact addT_nd h
      · exact h
    · rw [List.foldl_cons, List.length_cons]
      have e : (heldS ns l x).length ≤ l.length + 1 := by
        unfold heldS
        split
        · exact addT_len
        · omega
      omega
theorem held_mem {rows : List Row} {ns : List Int} {k : Str} : k ∈ heldL rows ns ↔ ∃ x ∈ rows, x.fate = "open" ∧ x.holder ∈ ns ∧ x.rcd = k := by
  have := (held_fold ns rows []).1 k
  simpa [heldL] using this
theorem held_nd {rows : List Row} {ns : List Int} : (heldL rows ns).Nodup := (held_fold ns rows []).2.1 List.nodup_nil
theorem held_len {rows : List Row} {ns : List Int} : (heldL rows ns).length ≤ rows.length := by
  have := (held_fold ns rows []).2.2
  simpa [heldL] using this
theorem held_take {rows : List Row} {ns : List Int} {i : Nat} {x : Row} (h : rows[i]? = some x) : heldL (rows.take (i + 1)) ns = heldS ns (heldL (rows.take i) ns) x := by
  unfold heldL
  rw [List.take_add_one, h, List.foldl_append]; rfl
/-- the numbers of some transactions, the last first -/
def numsO (st : List (Option Tx)) : List Int := (st.filterMap fun t => t.map (·.num)).reverse
/-! ### sorted(dict of texts) -/
section
open PySem PySem.Spec PyProof.Rows
theorem strs_nth : ∀ {vs : List Value} {xs : List Str}, vs.length = xs.length → (∀ (j : Nat) (v : Value), vs[j]? = some v → ∃ x t, xs[j]? = some x ∧ v = .str x t) → StrsAre vs xs
  | [], [], _, _ => .nil
  | v :: vs, x :: xs, hl, h => by
    obtain ⟨y, t, e, rfl⟩ := h 0 v rfl
    cases e
    exact .cons _ _ (strs_nth (Nat.succ.inj hl) fun j u e => h (j + 1) u e)
  | [], _ :: _, hl, _ => nomatch hl
  | _ :: _, [], hl, _ => nomatch hl
section
variable {P : Program} {w : World} {A : Around} {E : Value → Shared → Prop} {s : Shared} {T : String} {r d : Addr} {n : Nat} {Pv : Nat → Value → Prop} {OK : Heap → Prop}
/-- collecting from a dict: the heap grows -/
theorem collect_more {R : List Value → Shared → Prop} (S : PySem.W.KdlSrc P w T r d n Pv OK) (hh : A.handled = none) (ho : OK s.heap) (hn : n ≤ sizeLine)
    (q : ∀ (h' : Heap) (tk : Nat) (acc : Array Value), (∀ b o, s.heap.get? b = some o → h'.get? b = some o) → s.heap.objs.size < h'.objs.size → ItemsOf Pv acc n → R acc.toList { s with heap := h', toks := tk }) : wpAny (model P w) A (collect (.ref r)) R E s := by
  have lt := S.there _ ho
  have new0 : (s.heap.push { cls := .type "list", data := .seq ([] : List Value).toArray }).get? s.heap.objs.size = some { cls := .type "list", data := .seq #[] } := Heap.get?_push_size _ rfl
  unfold collect
  refine wpAny_bind (wpAny_runValue (codeAny_builtin entry_proto_collect' ?_)); rw [Around.under_plainId PySem.F.plain_proto_collect _]
  show wpAny _ A.in1 (newList [] >>= fun l => again (.builtin "list.__iadd__" ⟨[l, .ref r], []⟩)) _ _ s; refine wpAny_bind (wpAny_newObj_type (wpAny_pure ⟨plainId_quiet PySem.F.plain_list_iadd _, codeAny_builtin entry_list_iadd' ?_⟩)); rw [Around.under_plainId PySem.F.plain_list_iadd _]
  refine wpAny_mono (PySem.W.kdl_extend (A := A) (s := { s with heap := s.heap.push { cls := .type "list", data := .seq ([] : List Value).toArray } })
    (R := fun (z : Result) (s2 : Shared) => ∃ (g : Heap) (t : Nat) (ac : Array Value) (c : Nat), z = .ok (.ret (.ref s.heap.objs.size)) ∧ s2 = { s with heap := g, toks := t } ∧ (∀ b o, s.heap.get? b = some o → g.get? b = some o) ∧ g.get? s.heap.objs.size = some { cls := .type "list", dict := none, data := .seq ac c, slots := #[] } ∧ ItemsOf Pv ac n)
    S hh (S.keep _ _ ho fun b _ o e => Heap.get?_push_of_some _ e) s.heap.objs.size (Nat.ne_of_gt lt.1) (Nat.ne_of_gt lt.2) (.ref s.heap.objs.size) 0 new0 (fun g t ac c k hS ha => ⟨g, t, ac, c, rfl, rfl, fun b o e => k b o (Nat.ne_of_lt (Heap.lt_size e)) (Heap.get?_push_of_some _ e), hS, ha⟩) hn) (fun fin s2 x => ?_) fun e s2 x => ?_
  · match fin, x with
    | .done f, ⟨g, t, ac, c, e, es, k, hS, ha⟩ =>
      subst es; cases e
      show wpAny _ A (load s.heap.objs.size >>= _) _ _ _; exact wpAny_bind (wpAny_load hS (wpAny_pure (q g t ac k (Heap.lt_size hS) ha)))
    | .again c1, x =>
      refine ⟨x.1, codeAny_mono x.2 fun z s3 y => ?_⟩
      obtain ⟨g, t, ac, c, rfl, rfl, k, hS, ha⟩ := y
      show wpAny _ A (load s.heap.objs.size >>= _) _ _ _; exact wpAny_bind (wpAny_load hS (wpAny_pure (q g t ac k (Heap.lt_size hS) ha)))
  · obtain ⟨_, _, _, _, z, _⟩ := x
    cases z
end
section
variable {X : Cx}
/-- sorted(d), d a dict with texts as keys -/
theorem cr_sortDK (hc : X.calm = true) : CallR X (.builtin "sorted") (fun vs H Q => ∃ (a : Addr) (kvs : List (Key × V)) (xs : List Str), vs = [V.ref a] ∧ H a = some (.dK kvs) ∧ kvs.map (·.1) = xs.map Sum.inr ∧ ∀ p, H p = none → Q (.ref p) (upd H p (.lst ((sortT xs).map V.str)))) := by
  intro pins s σ H vs us Q I r h
  obtain ⟨a, kvs, xs, rfl, ha, hk, q⟩ := h
  rw [Vals.ref1 r]
  obtain ⟨z, hd, ws, rel, dd⟩ := dk_of I.hok ha
  obtain ⟨ep, hat⟩ := dd.dictAt
  have hks : ws.map (·.1) = xs.map Sum.inr := rel.keys ▸ hk
  have hlw : ws.length = xs.length := by
    have := congrArg List.length hks
    rwa [List.length_map, List.length_map] at this
  have hlx : xs.length ≤ sizeLine := by rw [← hlw, ← rel.length]; exact z
  refine Calls.call_function_entry kind_sorted plain_sorted entry_sorted (args_sorted1 _) ?_
  unfold Builtin.«sorted»
  refine wpAny_bind (m := checkCount "sorted" 1 1 _) (wpAny_pure (wpAny_bind (collect_more (A := X.A.in1) (PySem.W.kdl_dict (knd := mixKind X.prog X.w) (kvs := ws) (ep := ep) hd) (I.ok.hd hc) hat (by rw [hlw]; exact hlx) fun h' tk acc k1 hlt hacc => ?_)))
  have hl : acc.toList.length = xs.length := by rw [Array.length_toList, ← hlw]; exact hacc.1
  have hS : StrsAre acc.toList xs := strs_nth hl fun j v hv => by
    obtain ⟨k, x, e, hi⟩ := hacc.2 j v (by rw [← Array.getElem?_toList]; exact hv)
    have hx : (xs.map Sum.inr : List Key)[j]? = some k := by rw [← hks, List.getElem?_map, e]; rfl
    rw [List.getElem?_map] at hx
    cases ex : xs[j]? with
    | none => rw [ex] at hx; cases hx
    | some y =>
      rw [ex] at hx
      cases hx
      rcases keyIs_shape (show keyIs (Sum.inr y) v = true from hi) with ⟨i, t, e1, e2⟩ | ⟨x', t, e1, e2⟩
      · cases e1
      · cases e1
        exact ⟨_, t, rfl, e2⟩
  have hL : acc.toList.length ≤ sizeLine := by rw [hl]; exact hlx
  refine wpAny_bind (wpAny_newList ?_ hL)
  have hoL : (h'.push (seqObj "list" acc.toList.toArray 0)).get? h'.objs.size = some (seqObj "list" acc.toList.toArray 0) := Heap.get?_push_size _ rfl
  refine wpAny_bind (wpAny_holding (wpAny_call_entry slot_list_sort ⟨_, hoL, rfl⟩ entry_list_sort (list_sort_treeKAny strKind_oneLt hoL hS.keysOf (fun v₁ v₂ rest e => keyKind_strs (by rw [← e]; exact hS)) hL fun st' hp hs => ⟨_, rfl, ?_⟩) (args_list_sort _)))
  obtain ⟨ys, h1, h2, h3⟩ := sorted_out_str hS hp hs
  obtain ⟨c, hcc⟩ := sortedHeap_at (vs := acc.toList) (out := (arrOf st').map (·.2)) hoL
  rw [sortT_of h2 h3] at h1
  have hge : s.heap.objs.size ≤ h'.objs.size := Nat.le_of_lt hlt
  have hn : H h'.objs.size = none := I.hok.fresh hge
  have k2 : ∀ b o, s.heap.get? b = some o → (sortedHeap (h'.push (seqObj "list" acc.toList.toArray 0)) h'.objs.size acc.toList ((arrOf st').map (·.2))).get? b = some o := fun b u e => by
    have q := k1 b u e
    have lt := Heap.lt_size q
    rw [sortedHeap_old (Nat.ne_of_lt lt) (by rw [size_push']; exact Nat.lt_succ_of_lt lt)]
    exact Heap.get?_push_of_some _ q
  refine wpAny_pure ⟨_, rfl, ?_⟩
  exact ⟨.ref h'.objs.size, upd H h'.objs.size (.lst ((sortT xs).map V.str)), I.laid (t' := tk) k2 hge ⟨by rw [List.length_map, sortT_len]; exact hlx, ((arrOf st').map (·.2)).toList, c, vals_of_strs h1, hcc⟩, rfl, q _ hn⟩
end
end
/-! ### xs == [], xs != [] for items of any kind -/
section
variable {X : Cx}
def rEqE (K : PySem.W.Frag) : R2 := fun x y H Q => ∃ a b xs, x = .ref a ∧ y = .ref b ∧ SqL K H a xs ∧ SqL K H b [] ∧ Q (.bl xs.isEmpty) H
def rNeE (K : PySem.W.Frag) : R2 := fun x y H Q => ∃ a b xs, x = .ref a ∧ y = .ref b ∧ SqL K H a xs ∧ SqL K H b [] ∧ Q (.bl (!xs.isEmpty)) H
theorem lens_ne {x : V} {xs : List V} {its its2 : List Value} (r : Vals (x :: xs) its) (r2 : Vals [] its2) : (its.toArray.size != its2.toArray.size) = true := by
  have h1 := r.length
  have h2 := r2.length
  rw [List.length_cons] at h1
  rw [List.length_nil] at h2
  rw [List.size_toArray, List.size_toArray, ← h1, ← h2]
  rfl
theorem op_eqE (hu : X.A.units + 64 < cLine) : OpR X (compareOp .Eq) (rEqE X.K) := by
  intro pins s σ H x y v u Q I rx ry h
  obtain ⟨a, b, xs, rfl, rfl, ha, hb, q⟩ := h
  cases xs with
  | nil => exact op_eqD hu pins s σ H _ _ v u Q I rx ry ⟨.list [], .list [], .lst ha .nil, .lst hb .nil, rfl, rfl, q⟩
  | cons x xs =>
    obtain ⟨its, rv1, hl, _⟩ := I.list ha
    obtain ⟨its2, rv2, hl2, _⟩ := I.list hb
    cases (show v = Value.ref a from rx)
    cases (show u = Value.ref b from ry)
    exact PySem.SeqAt.eq_list_lengthsAt hl.isList hl2.isList (lens_ne rv1 rv2) (by omega) ⟨.bl false, H, I, rfl, q⟩
theorem op_neE (hu : X.A.units + 64 < cLine) : OpR X (compareOp .NotEq) (rNeE X.K) := by
  intro pins s σ H x y v u Q I rx ry h
  obtain ⟨a, b, xs, rfl, rfl, ha, hb, q⟩ := h
  cases xs with
  | nil => exact op_neD hu pins s σ H _ _ v u Q I rx ry ⟨.list [], .list [], .lst ha .nil, .lst hb .nil, rfl, rfl, q⟩
  | cons x xs =>
    obtain ⟨its, rv1, hl, _⟩ := I.list ha
    obtain ⟨its2, rv2, hl2, _⟩ := I.list hb
    cases (show v = Value.ref a from rx)
    cases (show u = Value.ref b from ry)
    exact PySem.SeqAt.RcNeAt.lists_lengths hl.isList hl2.isList (lens_ne rv1 rv2) (by omega) _ _ _ _ ⟨.bl true, H, I, rfl, q⟩
end
abbrev s_Mode_is_mode : Stmt := inClass (top 14) 9
theorem sc_Mode_is_mode : FnScope ["thing"] ["thing"] (defScope s_Mode_is_mode) := ⟨rfl, rfl, rfl, by decide +kernel, rfl, by decide +kernel, by decide +kernel⟩
abbrev s_is_word : Stmt := top 13
theorem sc_is_word : FnScope ["thing", "letter"] ["thing"] (defScope s_is_word) := ⟨rfl, rfl, rfl, by decide +kernel, rfl, by decide +kernel, by decide +kernel⟩
abbrev s_MissingU_initU : Stmt := inClass (top 8) 0
abbrev s_PresentU_initU : Stmt := inClass (top 9) 0
abbrev s_DoomedU_initU : Stmt := inClass (top 7) 0
abbrev s_RefusedU_initU : Stmt := inClass (top 10) 0
abbrev s_NoBlockU_initU : Stmt := inClass (top 5) 0
abbrev s_WaitsU_initU : Stmt := inClass (top 11) 0
abbrev s_NoRecordU_initU : Stmt := inClass (top 6) 0
abbrev s_BadWordU_initU : Stmt := inClass (top 3) 0
abbrev s_BadModeU_initU : Stmt := inClass (top 4) 0
abbrev s_WriteU_initU : Stmt := inClass (top 16) 0
theorem sc_WriteU_initU : FnScope ["self", "record", "value", "fate", "holder", "level"] ["self", "record", "value", "fate", "holder", "level"] (defScope s_WriteU_initU) := ⟨rfl, rfl, rfl, by decide +kernel, rfl, by decide +kernel, by decide +kernel⟩
abbrev s_TransactionU_initU : Stmt := inClass (top 17) 0
theorem sc_TransactionU_initU : FnScope ["self", "number"] ["self", "number"] (defScope s_TransactionU_initU) := ⟨rfl, rfl, rfl, by decide +kernel, rfl, by decide +kernel, by decide +kernel⟩
abbrev s_DatabaseU_initU : Stmt := inClass (top 18) 0
theorem sc_DatabaseU_initU : FnScope ["self"] ["self"] (defScope s_DatabaseU_initU) := ⟨rfl, rfl, rfl, by decide +kernel, rfl, by decide +kernel, by decide +kernel⟩
abbrev s_Database_begin : Stmt := inClass (top 18) 9
theorem sc_Database_begin : FnScope ["self"] ["self"] (defScope s_Database_begin) := ⟨rfl, rfl, rfl, by decide +kernel, rfl, by decide +kernel, by decide +kernel⟩
abbrev s_Database_enter_alone : Stmt := inClass (top 18) 7
theorem sc_Database_enter_alone : FnScope ["self", "mode"] ["self", "mode"] (defScope s_Database_enter_alone) := ⟨rfl, rfl, rfl, by decide +kernel, rfl, by decide +kernel, by decide +kernel⟩
abbrev s_Database_enter_inside : Stmt := inClass (top 18) 8
theorem sc_Database_enter_inside : FnScope ["self", "mode", "present"] ["self", "mode", "present"] (defScope s_Database_enter_inside) := ⟨rfl, rfl, rfl, by decide +kernel, rfl, by decide +kernel, by decide +kernel⟩
abbrev s_Database_enter : Stmt := inClass (top 18) 6
theorem sc_Database_enter : FnScope ["self", "mode"] ["self", "mode"] (defScope s_Database_enter) := ⟨rfl, rfl, rfl, by decide +kernel, rfl, by decide +kernel, by decide +kernel⟩
abbrev s_Database_doom : Stmt := inClass (top 18) 20
theorem sc_Database_doom : FnScope ["self", "first", "present"] ["self", "first"] (defScope s_Database_doom) := ⟨rfl, rfl, rfl, by decide +kernel, rfl, by decide +kernel, by decide +kernel⟩
abbrev s_Database_end_level : Stmt := inClass (top 18) 11
theorem sc_Database_end_level : FnScope ["self", "error", "present", "reason", "top", "row"] ["self", "error"] (defScope s_Database_end_level) := ⟨rfl, rfl, rfl, by decide +kernel, rfl, by decide +kernel, by decide +kernel⟩
abbrev s_Database_end_transaction : Stmt := inClass (top 18) 12
theorem sc_Database_end_transaction : FnScope ["self", "error", "commits", "present", "reason", "fate", "row"] ["self", "error", "commits"] (defScope s_Database_end_transaction) := ⟨rfl, rfl, rfl, by decide +kernel, rfl, by decide +kernel, by decide +kernel⟩
abbrev s_Database_leave : Stmt := inClass (top 18) 10
theorem sc_Database_leave : FnScope ["self", "error", "commits", "sort"] ["self", "error", "commits"] (defScope s_Database_leave) := ⟨rfl, rfl, rfl, by decide +kernel, rfl, by decide +kernel, by decide +kernel⟩
abbrev s_Database_held_by : Stmt := inClass (top 18) 21
theorem sc_Database_held_by : FnScope ["self", "numbers", "row"] ["self", "numbers"] (defScope s_Database_held_by) := ⟨rfl, rfl, rfl, by decide +kernel, rfl, by decide +kernel, by decide +kernel⟩
abbrev s_Database_outer_records : Stmt := inClass (top 18) 23
theorem sc_Database_outer_records : FnScope ["self", "one"] ["self"] (defScope s_Database_outer_records) := ⟨rfl, rfl, rfl, by decide +kernel, rfl, by decide +kernel, by decide +kernel⟩
abbrev s_Database_would_wait : Stmt := inClass (top 18) 13
theorem sc_Database_would_wait : FnScope ["self", "record"] ["self", "record"] (defScope s_Database_would_wait) := ⟨rfl, rfl, rfl, by decide +kernel, rfl, by decide +kernel, by decide +kernel⟩
abbrev s_Database_write : Stmt := inClass (top 18) 14
theorem sc_Database_write : FnScope ["self", "record", "value", "present"] ["self", "record", "value"] (defScope s_Database_write) := ⟨rfl, rfl, rfl, by decide +kernel, rfl, by decide +kernel, by decide +kernel⟩
abbrev s_DatabaseU_setitemU : Stmt := inClass (top 18) 15
theorem sc_DatabaseU_setitemU : FnScope ["self", "record", "value"] ["self", "record", "value"] (defScope s_DatabaseU_setitemU) := ⟨rfl, rfl, rfl, by decide +kernel, rfl, by decide +kernel, by decide +kernel⟩
abbrev s_Database_sees : Stmt := inClass (top 18) 16
theorem sc_Database_sees : FnScope ["self", "row"] ["self", "row"] (defScope s_Database_sees) := ⟨rfl, rfl, rfl, by decide +kernel, rfl, by decide +kernel, by decide +kernel⟩
abbrev s_DatabaseU_getitemU : Stmt := inClass (top 18) 17
theorem sc_DatabaseU_getitemU : FnScope ["self", "record", "found", "row"] ["self", "record"] (defScope s_DatabaseU_getitemU) := ⟨rfl, rfl, rfl, by decide +kernel, rfl, by decide +kernel, by decide +kernel⟩
abbrev s_DatabaseU_containsU : Stmt := inClass (top 18) 18
theorem sc_DatabaseU_containsU : FnScope ["self", "record", "row"] ["self", "record"] (defScope s_DatabaseU_containsU) := ⟨rfl, rfl, rfl, by decide +kernel, rfl, by decide +kernel, by decide +kernel⟩
abbrev s_law_pool : Stmt := top 20
theorem sc_law_pool : FnScope ["_law_script", "_law_at", "_law_cell", "_law_size", "_law_seed"] ["_law_script", "_law_at"] (defScope s_law_pool) := ⟨rfl, rfl, rfl, by decide +kernel, rfl, by decide +kernel, by decide +kernel⟩
abbrev s_law_draw : Stmt := top 21
theorem sc_law_draw : FnScope ["_law_pool_here", "_law_many", "_law_digit", "_law_count", "_law_mixed"] ["_law_pool_here", "_law_many"] (defScope s_law_draw) := ⟨rfl, rfl, rfl, by decide +kernel, rfl, by decide +kernel, by decide +kernel⟩
abbrev s_law_word : Stmt := top 22
theorem sc_law_word : FnScope ["_law_pool_here", "_law_letters", "_law_k"] ["_law_pool_here"] (defScope s_law_word) := ⟨rfl, rfl, rfl, by decide +kernel, rfl, by decide +kernel, by decide +kernel⟩
abbrev s_law_seen : Stmt := top 23
theorem sc_law_seen : FnScope ["_law_db", "_law_record", "_law_due", "_law_told", "e"] ["_law_db", "_law_record", "_law_due"] (defScope s_law_seen) := ⟨rfl, rfl, rfl, by decide +kernel, rfl, by decide +kernel, by decide +kernel⟩
abbrev s_law_odd : Stmt := top 24
theorem sc_law_odd : FnScope ["_law_db", "_law_thing", "_law_told", "e"] ["_law_db", "_law_thing"] (defScope s_law_odd) := ⟨rfl, rfl, rfl, by decide +kernel, rfl, by decide +kernel, by decide +kernel⟩
abbrev s_law_deed : Stmt := top 25
theorem sc_law_deed : FnScope ["_law_pool_here", "_law_db", "_law_values", "_law_depth", "_law_sort", "_law_known", "_law_record", "_law_value"] ["_law_pool_here", "_law_db", "_law_values", "_law_depth"] (defScope s_law_deed) := ⟨rfl, rfl, rfl, by decide +kernel, rfl, by decide +kernel, by decide +kernel⟩
abbrev s_law : Stmt := top 26
theorem sc_law : FnScope ["_law_script", "_law_first", "_law_second", "_law_values", "_law_others", "_law_depths", "_law_at", "_law_pool_here", "_law_turn", "_law_asked", "_law_record", "_law_thing"] ["_law_script"] (defScope s_law) := ⟨rfl, rfl, rfl, by decide +kernel, rfl, by decide +kernel, by decide +kernel⟩
abbrev ef_Missing : List (Str × Sum Nat Str) := [("word", .inr "missing"), ("mode", .inl 0)]
theorem ec_Missing {K : PySem.W.Frag} {C fI : Addr} {nm qn : Str} {N : Addr} {bs bm : List Value} {sn : List Str} {sub : List Value} {ab : Bool} {col : Option Bool} {dd : Option Addr} {k0 k1 k2 k3 k5 : Option Value}
    {oc : Value} {od : Option Addr} {doc pm : Value} {an : Option Addr} {cda cc : Addr} {ct : Value} {osl : Array (Option Value)} {ccl : Value} {cdd : Option Addr} {vs : Array Value} {ccs : Array (Option Value)} {tf : Tok} {cl : Value} {cld : Option Addr} {csl : Array (Option Value)}
    (h1 : K.lookup C = some (excClassObj nm qn C N bs bm true sn sub ab col dd k0 k1 k2 k3 k5 "ValueError.__new__")) (h2 : PySem.HandSPX.refsVE bm = true) (h3 : PySem.W.findIn K (.ref C) "__setattr__" = some (some (.builtin "object.__setattr__")))
    (h4 : PySem.W.findIn K (.ref C) "__getattribute__" = some (some (.builtin "BaseException.__getattribute__"))) (h5 : PySem.W.findIn K (.ref C) "__getattr__" = some none) (h6 : PySem.W.findIn K (.ref C) "__init__" = some (some (.ref fI)))
    (h7 : PySem.W.typeIn K (.ref fI) = some (.type "function")) (h8 : PySem.W.keepIn K (.ref C) = true) (h9 : PySem.W.subIn K (.ref C) (.type "BaseException") = some true) (h10 : PySem.W.subIn K (.ref C) (.type "ValueError") = some true)
    (h11 : PySem.W.typeIn K (.ref C) = some (.type "type")) (h12 : PySem.W.hasDictIn K C = true) (h13 : PySem.W.ks_superIn K C C "__init__" = some (some (.builtin "ValueError.__init__"))) (h14 : PySem.W.mroIn K C (.ref C) = some true) (h15 : PySem.W.exmOne K (.ref C) (.ref C) = some true)
    (h16 : PySem.W.nsIn K cStatics "thirdparty.any" = some none) (h17 : K.lookup fI = some ⟨oc, od, .func (PySem.W.ksFn "__init__" "Missing.__init__" (defArgs s_MissingU_initU) (defBody s_MissingU_initU) (defScope s_MissingU_initU) .none .none doc pm an (.ref cda) ct cc), osl⟩) (h18 : PySem.W.codeIn K (.ref cda) "Missing.__init__" = true)
    (h19 : K.lookup cda = some ⟨ccl, cdd, .fields vs, ccs⟩) (h20 : vs[2]? = some (.str P.main.file tf)) (h21 : K.lookup cc = some ⟨cl, cld, .cell (some (.ref C)), csl⟩) (nf0 : PySem.W.findIn K (.ref C) "word" = some none) (nf1 : PySem.W.findIn K (.ref C) "mode" = some none) : ErrC P K C fI s_MissingU_initU "Missing.__init__" ["mode"] ef_Missing := by
  refine ⟨⟨nm, qn, N, bs, bm, sn, sub, ab, col, dd, k0, k1, k2, k3, k5, h1, h2⟩, h3, h4, h5, ?_, h6, h7, h8, h9, h10, h11, h12, h13, h14, h15, h16, ⟨oc, od, doc, pm, an, cda, cc, ct, osl, ccl, cdd, vs, ccs, tf, cl, cld, csl, h17, h18, h19, h20, h21⟩, ⟨_, rfl, rfl⟩, (fun _ _ _ _ _ _ us hl => match us, hl with | [_, _], _ => rfl),
    ⟨_, _, _, _, _, _, _, _, _, rfl, (.con (.par (i := 0) rfl .nil)), fun L cda cc => ⟨_, rfl⟩⟩, rfl, rfl, rfl, by decide +kernel, by decide +kernel, rfl, rfl, by decide +kernel, by decide +kernel⟩
  intro p hp
  rcases List.mem_cons.mp hp with rfl | hp
  · exact nf0
  rcases List.mem_cons.mp hp with rfl | hp
  · exact nf1
  · exact absurd hp (by simp)
abbrev ef_Present : List (Str × Sum Nat Str) := [("word", .inr "present"), ("mode", .inl 0)]
theorem ec_Present {K : PySem.W.Frag} {C fI : Addr} {nm qn : Str} {N : Addr} {bs bm : List Value} {sn : List Str} {sub : List Value} {ab : Bool} {col : Option Bool} {dd : Option Addr} {k0 k1 k2 k3 k5 : Option Value}
    {oc : Value} {od : Option Addr} {doc pm : Value} {an : Option Addr} {cda cc : Addr} {ct : Value} {osl : Array (Option Value)} {ccl : Value} {cdd : Option Addr} {vs : Array Value} {ccs : Array (Option Value)} {tf : Tok} {cl : Value} {cld : Option Addr} {csl : Array (Option Value)}
    (h1 : K.lookup C = some (excClassObj nm qn C N bs bm true sn sub ab col dd k0 k1 k2 k3 k5 "ValueError.__new__")) (h2 : PySem.HandSPX.refsVE bm = true) (h3 : PySem.W.findIn K (.ref C) "__setattr__" = some (some (.builtin "object.__setattr__")))
    (h4 : PySem.W.findIn K (.ref C) "__getattribute__" = some (some (.builtin "BaseException.__getattribute__"))) (h5 : PySem.W.findIn K (.ref C) "__getattr__" = some none) (h6 : PySem.W.findIn K (.ref C) "__init__" = some (some (.ref fI)))
    (h7 : PySem.W.typeIn K (.ref fI) = some (.type "function")) (h8 : PySem.W.keepIn K (.ref C) = true) (h9 : PySem.W.subIn K (.ref C) (.type "BaseException") = some true) (h10 : PySem.W.subIn K (.ref C) (.type "ValueError") = some true)
    (h11 : PySem.W.typeIn K (.ref C) = some (.type "type")) (h12 : PySem.W.hasDictIn K C = true) (h13 : PySem.W.ks_superIn K C C "__init__" = some (some (.builtin "ValueError.__init__"))) (h14 : PySem.W.mroIn K C (.ref C) = some true) (h15 : PySem.W.exmOne K (.ref C) (.ref C) = some true)
    (h16 : PySem.W.nsIn K cStatics "thirdparty.any" = some none) (h17 : K.lookup fI = some ⟨oc, od, .func (PySem.W.ksFn "__init__" "Present.__init__" (defArgs s_PresentU_initU) (defBody s_PresentU_initU) (defScope s_PresentU_initU) .none .none doc pm an (.ref cda) ct cc), osl⟩) (h18 : PySem.W.codeIn K (.ref cda) "Present.__init__" = true)
    (h19 : K.lookup cda = some ⟨ccl, cdd, .fields vs, ccs⟩) (h20 : vs[2]? = some (.str P.main.file tf)) (h21 : K.lookup cc = some ⟨cl, cld, .cell (some (.ref C)), csl⟩) (nf0 : PySem.W.findIn K (.ref C) "word" = some none) (nf1 : PySem.W.findIn K (.ref C) "mode" = some none) : ErrC P K C fI s_PresentU_initU "Present.__init__" ["mode"] ef_Present := by
  refine ⟨⟨nm, qn, N, bs, bm, sn, sub, ab, col, dd, k0, k1, k2, k3, k5, h1, h2⟩, h3, h4, h5, ?_, h6, h7, h8, h9, h10, h11, h12, h13, h14, h15, h16, ⟨oc, od, doc, pm, an, cda, cc, ct, osl, ccl, cdd, vs, ccs, tf, cl, cld, csl, h17, h18, h19, h20, h21⟩, ⟨_, rfl, rfl⟩, (fun _ _ _ _ _ _ us hl => match us, hl with | [_, _], _ => rfl),
    ⟨_, _, _, _, _, _, _, _, _, rfl, (.con (.par (i := 0) rfl .nil)), fun L cda cc => ⟨_, rfl⟩⟩, rfl, rfl, rfl, by decide +kernel, by decide +kernel, rfl, rfl, by decide +kernel, by decide +kernel⟩
  intro p hp
  rcases List.mem_cons.mp hp with rfl | hp
  · exact nf0
  rcases List.mem_cons.mp hp with rfl | hp
  · exact nf1
  · exact absurd hp (by simp)
abbrev ef_Doomed : List (Str × Sum Nat Str) := [("word", .inr "doomed"), ("first", .inl 0)]
theorem ec_Doomed {K : PySem.W.Frag} {C fI : Addr} {nm qn : Str} {N : Addr} {bs bm : List Value} {sn : List Str} {sub : List Value} {ab : Bool} {col : Option Bool} {dd : Option Addr} {k0 k1 k2 k3 k5 : Option Value}
    {oc : Value} {od : Option Addr} {doc pm : Value} {an : Option Addr} {cda cc : Addr} {ct : Value} {osl : Array (Option Value)} {ccl : Value} {cdd : Option Addr} {vs : Array Value} {ccs : Array (Option Value)} {tf : Tok} {cl : Value} {cld : Option Addr} {csl : Array (Option Value)}
    (h1 : K.lookup C = some (excClassObj nm qn C N bs bm true sn sub ab col dd k0 k1 k2 k3 k5 "ValueError.__new__")) (h2 : PySem.HandSPX.refsVE bm = true) (h3 : PySem.W.findIn K (.ref C) "__setattr__" = some (some (.builtin "object.__setattr__")))
    (h4 : PySem.W.findIn K (.ref C) "__getattribute__" = some (some (.builtin "BaseException.__getattribute__"))) (h5 : PySem.W.findIn K (.ref C) "__getattr__" = some none) (h6 : PySem.W.findIn K (.ref C) "__init__" = some (some (.ref fI)))
    (h7 : PySem.W.typeIn K (.ref fI) = some (.type "function")) (h8 : PySem.W.keepIn K (.ref C) = true) (h9 : PySem.W.subIn K (.ref C) (.type "BaseException") = some true) (h10 : PySem.W.subIn K (.ref C) (.type "ValueError") = some true)
    (h11 : PySem.W.typeIn K (.ref C) = some (.type "type")) (h12 : PySem.W.hasDictIn K C = true) (h13 : PySem.W.ks_superIn K C C "__init__" = some (some (.builtin "ValueError.__init__"))) (h14 : PySem.W.mroIn K C (.ref C) = some true) (h15 : PySem.W.exmOne K (.ref C) (.ref C) = some true)
    (h16 : PySem.W.nsIn K cStatics "thirdparty.any" = some none) (h17 : K.lookup fI = some ⟨oc, od, .func (PySem.W.ksFn "__init__" "Doomed.__init__" (defArgs s_DoomedU_initU) (defBody s_DoomedU_initU) (defScope s_DoomedU_initU) .none .none doc pm an (.ref cda) ct cc), osl⟩) (h18 : PySem.W.codeIn K (.ref cda) "Doomed.__init__" = true)
    (h19 : K.lookup cda = some ⟨ccl, cdd, .fields vs, ccs⟩) (h20 : vs[2]? = some (.str P.main.file tf)) (h21 : K.lookup cc = some ⟨cl, cld, .cell (some (.ref C)), csl⟩) (nf0 : PySem.W.findIn K (.ref C) "word" = some none) (nf1 : PySem.W.findIn K (.ref C) "first" = some none) : ErrC P K C fI s_DoomedU_initU "Doomed.__init__" ["first"] ef_Doomed := by
  refine ⟨⟨nm, qn, N, bs, bm, sn, sub, ab, col, dd, k0, k1, k2, k3, k5, h1, h2⟩, h3, h4, h5, ?_, h6, h7, h8, h9, h10, h11, h12, h13, h14, h15, h16, ⟨oc, od, doc, pm, an, cda, cc, ct, osl, ccl, cdd, vs, ccs, tf, cl, cld, csl, h17, h18, h19, h20, h21⟩, ⟨_, rfl, rfl⟩, (fun _ _ _ _ _ _ us hl => match us, hl with | [_, _], _ => rfl),
    ⟨_, _, _, _, _, _, _, _, _, rfl, (.con (.par (i := 0) rfl .nil)), fun L cda cc => ⟨_, rfl⟩⟩, rfl, rfl, rfl, by decide +kernel, by decide +kernel, rfl, rfl, by decide +kernel, by decide +kernel⟩
  intro p hp
  rcases List.mem_cons.mp hp with rfl | hp
  · exact nf0
  rcases List.mem_cons.mp hp with rfl | hp
  · exact nf1
  · exact absurd hp (by simp)
abbrev ef_Refused : List (Str × Sum Nat Str) := [("word", .inr "refused")]
theorem ec_Refused {K : PySem.W.Frag} {C fI : Addr} {nm qn : Str} {N : Addr} {bs bm : List Value} {sn : List Str} {sub : List Value} {ab : Bool} {col : Option Bool} {dd : Option Addr} {k0 k1 k2 k3 k5 : Option Value}
    {oc : Value} {od : Option Addr} {doc pm : Value} {an : Option Addr} {cda cc : Addr} {ct : Value} {osl : Array (Option Value)} {ccl : Value} {cdd : Option Addr} {vs : Array Value} {ccs : Array (Option Value)} {tf : Tok} {cl : Value} {cld : Option Addr} {csl : Array (Option Value)}
    (h1 : K.lookup C = some (excClassObj nm qn C N bs bm true sn sub ab col dd k0 k1 k2 k3 k5 "ValueError.__new__")) (h2 : PySem.HandSPX.refsVE bm = true) (h3 : PySem.W.findIn K (.ref C) "__setattr__" = some (some (.builtin "object.__setattr__")))
    (h4 : PySem.W.findIn K (.ref C) "__getattribute__" = some (some (.builtin "BaseException.__getattribute__"))) (h5 : PySem.W.findIn K (.ref C) "__getattr__" = some none) (h6 : PySem.W.findIn K (.ref C) "__init__" = some (some (.ref fI)))
    (h7 : PySem.W.typeIn K (.ref fI) = some (.type "function")) (h8 : PySem.W.keepIn K (.ref C) = true) (h9 : PySem.W.subIn K (.ref C) (.type "BaseException") = some true) (h10 : PySem.W.subIn K (.ref C) (.type "ValueError") = some true)
    (h11 : PySem.W.typeIn K (.ref C) = some (.type "type")) (h12 : PySem.W.hasDictIn K C = true) (h13 : PySem.W.ks_superIn K C C "__init__" = some (some (.builtin "ValueError.__init__"))) (h14 : PySem.W.mroIn K C (.ref C) = some true) (h15 : PySem.W.exmOne K (.ref C) (.ref C) = some true)
    (h16 : PySem.W.nsIn K cStatics "thirdparty.any" = some none) (h17 : K.lookup fI = some ⟨oc, od, .func (PySem.W.ksFn "__init__" "Refused.__init__" (defArgs s_RefusedU_initU) (defBody s_RefusedU_initU) (defScope s_RefusedU_initU) .none .none doc pm an (.ref cda) ct cc), osl⟩) (h18 : PySem.W.codeIn K (.ref cda) "Refused.__init__" = true)
    (h19 : K.lookup cda = some ⟨ccl, cdd, .fields vs, ccs⟩) (h20 : vs[2]? = some (.str P.main.file tf)) (h21 : K.lookup cc = some ⟨cl, cld, .cell (some (.ref C)), csl⟩) (nf0 : PySem.W.findIn K (.ref C) "word" = some none) : ErrC P K C fI s_RefusedU_initU "Refused.__init__" [] ef_Refused := by
  refine ⟨⟨nm, qn, N, bs, bm, sn, sub, ab, col, dd, k0, k1, k2, k3, k5, h1, h2⟩, h3, h4, h5, ?_, h6, h7, h8, h9, h10, h11, h12, h13, h14, h15, h16, ⟨oc, od, doc, pm, an, cda, cc, ct, osl, ccl, cdd, vs, ccs, tf, cl, cld, csl, h17, h18, h19, h20, h21⟩, ⟨_, rfl, rfl⟩, (fun _ _ _ _ _ _ us hl => match us, hl with | [_], _ => rfl),
    ⟨_, _, _, _, _, _, _, _, _, rfl, (.con .nil), fun L cda cc => ⟨_, rfl⟩⟩, rfl, rfl, rfl, by decide +kernel, by decide +kernel, rfl, rfl, by decide +kernel, by decide +kernel⟩
  intro p hp
  rcases List.mem_cons.mp hp with rfl | hp
  · exact nf0
  · exact absurd hp (by simp)
abbrev ef_NoBlock : List (Str × Sum Nat Str) := []
theorem ec_NoBlock {K : PySem.W.Frag} {C fI : Addr} {nm qn : Str} {N : Addr} {bs bm : List Value} {sn : List Str} {sub : List Value} {ab : Bool} {col : Option Bool} {dd : Option Addr} {k0 k1 k2 k3 k5 : Option Value}
    {oc : Value} {od : Option Addr} {doc pm : Value} {an : Option Addr} {cda cc : Addr} {ct : Value} {osl : Array (Option Value)} {ccl : Value} {cdd : Option Addr} {vs : Array Value} {ccs : Array (Option Value)} {tf : Tok} {cl : Value} {cld : Option Addr} {csl : Array (Option Value)}
    (h1 : K.lookup C = some (excClassObj nm qn C N bs bm true sn sub ab col dd k0 k1 k2 k3 k5 "ValueError.__new__")) (h2 : PySem.HandSPX.refsVE bm = true) (h3 : PySem.W.findIn K (.ref C) "__setattr__" = some (some (.builtin "object.__setattr__")))
    (h4 : PySem.W.findIn K (.ref C) "__getattribute__" = some (some (.builtin "BaseException.__getattribute__"))) (h5 : PySem.W.findIn K (.ref C) "__getattr__" = some none) (h6 : PySem.W.findIn K (.ref C) "__init__" = some (some (.ref fI)))
    (h7 : PySem.W.typeIn K (.ref fI) = some (.type "function")) (h8 : PySem.W.keepIn K (.ref C) = true) (h9 : PySem.W.subIn K (.ref C) (.type "BaseException") = some true) (h10 : PySem.W.subIn K (.ref C) (.type "ValueError") = some true)
    (h11 : PySem.W.typeIn K (.ref C) = some (.type "type")) (h12 : PySem.W.hasDictIn K C = true) (h13 : PySem.W.ks_superIn K C C "__init__" = some (some (.builtin "ValueError.__init__"))) (h14 : PySem.W.mroIn K C (.ref C) = some true) (h15 : PySem.W.exmOne K (.ref C) (.ref C) = some true)
    (h16 : PySem.W.nsIn K cStatics "thirdparty.any" = some none) (h17 : K.lookup fI = some ⟨oc, od, .func (PySem.W.ksFn "__init__" "NoBlock.__init__" (defArgs s_NoBlockU_initU) (defBody s_NoBlockU_initU) (defScope s_NoBlockU_initU) .none .none doc pm an (.ref cda) ct cc), osl⟩) (h18 : PySem.W.codeIn K (.ref cda) "NoBlock.__init__" = true)
    (h19 : K.lookup cda = some ⟨ccl, cdd, .fields vs, ccs⟩) (h20 : vs[2]? = some (.str P.main.file tf)) (h21 : K.lookup cc = some ⟨cl, cld, .cell (some (.ref C)), csl⟩)  : ErrC P K C fI s_NoBlockU_initU "NoBlock.__init__" [] ef_NoBlock := by
  refine ⟨⟨nm, qn, N, bs, bm, sn, sub, ab, col, dd, k0, k1, k2, k3, k5, h1, h2⟩, h3, h4, h5, ?_, h6, h7, h8, h9, h10, h11, h12, h13, h14, h15, h16, ⟨oc, od, doc, pm, an, cda, cc, ct, osl, ccl, cdd, vs, ccs, tf, cl, cld, csl, h17, h18, h19, h20, h21⟩, ⟨_, rfl, rfl⟩, (fun _ _ _ _ _ _ us hl => match us, hl with | [_], _ => rfl),
    ⟨_, _, _, _, _, _, _, _, _, rfl, .nil, fun L cda cc => ⟨_, rfl⟩⟩, rfl, rfl, rfl, by decide +kernel, by decide +kernel, rfl, rfl, by decide +kernel, by decide +kernel⟩
  intro p hp
  exact absurd hp (by simp)
abbrev ef_Waits : List (Str × Sum Nat Str) := [("word", .inr "waits"), ("record", .inl 0)]
theorem ec_Waits {K : PySem.W.Frag} {C fI : Addr} {nm qn : Str} {N : Addr} {bs bm : List Value} {sn : List Str} {sub : List Value} {ab : Bool} {col : Option Bool} {dd : Option Addr} {k0 k1 k2 k3 k5 : Option Value}
    {oc : Value} {od : Option Addr} {doc pm : Value} {an : Option Addr} {cda cc : Addr} {ct : Value} {osl : Array (Option Value)} {ccl : Value} {cdd : Option Addr} {vs : Array Value} {ccs : Array (Option Value)} {tf : Tok} {cl : Value} {cld : Option Addr} {csl : Array (Option Value)}
    (h1 : K.lookup C = some (excClassObj nm qn C N bs bm true sn sub ab col dd k0 k1 k2 k3 k5 "ValueError.__new__")) (h2 : PySem.HandSPX.refsVE bm = true) (h3 : PySem.W.findIn K (.ref C) "__setattr__" = some (some (.builtin "object.__setattr__")))
    (h4 : PySem.W.findIn K (.ref C) "__getattribute__" = some (some (.builtin "BaseException.__getattribute__"))) (h5 : PySem.W.findIn K (.ref C) "__getattr__" = some none) (h6 : PySem.W.findIn K (.ref C) "__init__" = some (some (.ref fI)))
    (h7 : PySem.W.typeIn K (.ref fI) = some (.type "function")) (h8 : PySem.W.keepIn K (.ref C) = true) (h9 : PySem.W.subIn K (.ref C) (.type "BaseException") = some true) (h10 : PySem.W.subIn K (.ref C) (.type "ValueError") = some true)
    (h11 : PySem.W.typeIn K (.ref C) = some (.type "type")) (h12 : PySem.W.hasDictIn K C = true) (h13 : PySem.W.ks_superIn K C C "__init__" = some (some (.builtin "ValueError.__init__"))) (h14 : PySem.W.mroIn K C (.ref C) = some true) (h15 : PySem.W.exmOne K (.ref C) (.ref C) = some true)
    (h16 : PySem.W.nsIn K cStatics "thirdparty.any" = some none) (h17 : K.lookup fI = some ⟨oc, od, .func (PySem.W.ksFn "__init__" "Waits.__init__" (defArgs s_WaitsU_initU) (defBody s_WaitsU_initU) (defScope s_WaitsU_initU) .none .none doc pm an (.ref cda) ct cc), osl⟩) (h18 : PySem.W.codeIn K (.ref cda) "Waits.__init__" = true)
    (h19 : K.lookup cda = some ⟨ccl, cdd, .fields vs, ccs⟩) (h20 : vs[2]? = some (.str P.main.file tf)) (h21 : K.lookup cc = some ⟨cl, cld, .cell (some (.ref C)), csl⟩) (nf0 : PySem.W.findIn K (.ref C) "word" = some none) (nf1 : PySem.W.findIn K (.ref C) "record" = some none) : ErrC P K C fI s_WaitsU_initU "Waits.__init__" ["record"] ef_Waits := by
  refine ⟨⟨nm, qn, N, bs, bm, sn, sub, ab, col, dd, k0, k1, k2, k3, k5, h1, h2⟩, h3, h4, h5, ?_, h6, h7, h8, h9, h10, h11, h12, h13, h14, h15, h16, ⟨oc, od, doc, pm, an, cda, cc, ct, osl, ccl, cdd, vs, ccs, tf, cl, cld, csl, h17, h18, h19, h20, h21⟩, ⟨_, rfl, rfl⟩, (fun _ _ _ _ _ _ us hl => match us, hl with | [_, _], _ => rfl),
    ⟨_, _, _, _, _, _, _, _, _, rfl, (.con (.par (i := 0) rfl .nil)), fun L cda cc => ⟨_, rfl⟩⟩, rfl, rfl, rfl, by decide +kernel, by decide +kernel, rfl, rfl, by decide +kernel, by decide +kernel⟩
  intro p hp
  rcases List.mem_cons.mp hp with rfl | hp
  · exact nf0
  rcases List.mem_cons.mp hp with rfl | hp
  · exact nf1
  · exact absurd hp (by simp)
abbrev ef_NoRecord : List (Str × Sum Nat Str) := [("record", .inl 0)]
theorem ec_NoRecord {K : PySem.W.Frag} {C fI : Addr} {nm qn : Str} {N : Addr} {bs bm : List Value} {sn : List Str} {sub : List Value} {ab : Bool} {col : Option Bool} {dd : Option Addr} {k0 k1 k2 k3 k5 : Option Value}
    {oc : Value} {od : Option Addr} {doc pm : Value} {an : Option Addr} {cda cc : Addr} {ct : Value} {osl : Array (Option Value)} {ccl : Value} {cdd : Option Addr} {vs : Array Value} {ccs : Array (Option Value)} {tf : Tok} {cl : Value} {cld : Option Addr} {csl : Array (Option Value)}
    (h1 : K.lookup C = some (excClassObj nm qn C N bs bm true sn sub ab col dd k0 k1 k2 k3 k5 "ValueError.__new__")) (h2 : PySem.HandSPX.refsVE bm = true) (h3 : PySem.W.findIn K (.ref C) "__setattr__" = some (some (.builtin "object.__setattr__")))
    (h4 : PySem.W.findIn K (.ref C) "__getattribute__" = some (some (.builtin "BaseException.__getattribute__"))) (h5 : PySem.W.findIn K (.ref C) "__getattr__" = some none) (h6 : PySem.W.findIn K (.ref C) "__init__" = some (some (.ref fI)))
    (h7 : PySem.W.typeIn K (.ref fI) = some (.type "function")) (h8 : PySem.W.keepIn K (.ref C) = true) (h9 : PySem.W.subIn K (.ref C) (.type "BaseException") = some true) (h10 : PySem.W.subIn K (.ref C) (.type "ValueError") = some true)
    (h11 : PySem.W.typeIn K (.ref C) = some (.type "type")) (h12 : PySem.W.hasDictIn K C = true) (h13 : PySem.W.ks_superIn K C C "__init__" = some (some (.builtin "ValueError.__init__"))) (h14 : PySem.W.mroIn K C (.ref C) = some true) (h15 : PySem.W.exmOne K (.ref C) (.ref C) = some true)
    (h16 : PySem.W.nsIn K cStatics "thirdparty.any" = some none) (h17 : K.lookup fI = some ⟨oc, od, .func (PySem.W.ksFn "__init__" "NoRecord.__init__" (defArgs s_NoRecordU_initU) (defBody s_NoRecordU_initU) (defScope s_NoRecordU_initU) .none .none doc pm an (.ref cda) ct cc), osl⟩) (h18 : PySem.W.codeIn K (.ref cda) "NoRecord.__init__" = true)
    (h19 : K.lookup cda = some ⟨ccl, cdd, .fields vs, ccs⟩) (h20 : vs[2]? = some (.str P.main.file tf)) (h21 : K.lookup cc = some ⟨cl, cld, .cell (some (.ref C)), csl⟩) (nf0 : PySem.W.findIn K (.ref C) "record" = some none) : ErrC P K C fI s_NoRecordU_initU "NoRecord.__init__" ["record"] ef_NoRecord := by
  refine ⟨⟨nm, qn, N, bs, bm, sn, sub, ab, col, dd, k0, k1, k2, k3, k5, h1, h2⟩, h3, h4, h5, ?_, h6, h7, h8, h9, h10, h11, h12, h13, h14, h15, h16, ⟨oc, od, doc, pm, an, cda, cc, ct, osl, ccl, cdd, vs, ccs, tf, cl, cld, csl, h17, h18, h19, h20, h21⟩, ⟨_, rfl, rfl⟩, (fun _ _ _ _ _ _ us hl => match us, hl with | [_, _], _ => rfl),
    ⟨_, _, _, _, _, _, _, _, _, rfl, (.par (i := 0) rfl .nil), fun L cda cc => ⟨_, rfl⟩⟩, rfl, rfl, rfl, by decide +kernel, by decide +kernel, rfl, rfl, by decide +kernel, by decide +kernel⟩
  intro p hp
  rcases List.mem_cons.mp hp with rfl | hp
  · exact nf0
  · exact absurd hp (by simp)
abbrev ef_BadWord : List (Str × Sum Nat Str) := [("word", .inl 0)]
theorem ec_BadWord {K : PySem.W.Frag} {C fI : Addr} {nm qn : Str} {N : Addr} {bs bm : List Value} {sn : List Str} {sub : List Value} {ab : Bool} {col : Option Bool} {dd : Option Addr} {k0 k1 k2 k3 k5 : Option Value}
    {oc : Value} {od : Option Addr} {doc pm : Value} {an : Option Addr} {cda cc : Addr} {ct : Value} {osl : Array (Option Value)} {ccl : Value} {cdd : Option Addr} {vs : Array Value} {ccs : Array (Option Value)} {tf : Tok} {cl : Value} {cld : Option Addr} {csl : Array (Option Value)}
    (h1 : K.lookup C = some (excClassObj nm qn C N bs bm true sn sub ab col dd k0 k1 k2 k3 k5 "ValueError.__new__")) (h2 : PySem.HandSPX.refsVE bm = true) (h3 : PySem.W.findIn K (.ref C) "__setattr__" = some (some (.builtin "object.__setattr__")))
    (h4 : PySem.W.findIn K (.ref C) "__getattribute__" = some (some (.builtin "BaseException.__getattribute__"))) (h5 : PySem.W.findIn K (.ref C) "__getattr__" = some none) (h6 : PySem.W.findIn K (.ref C) "__init__" = some (some (.ref fI)))
    (h7 : PySem.W.typeIn K (.ref fI) = some (.type "function")) (h8 : PySem.W.keepIn K (.ref C) = true) (h9 : PySem.W.subIn K (.ref C) (.type "BaseException") = some true) (h10 : PySem.W.subIn K (.ref C) (.type "ValueError") = some true)
    (h11 : PySem.W.typeIn K (.ref C) = some (.type "type")) (h12 : PySem.W.hasDictIn K C = true) (h13 : PySem.W.ks_superIn K C C "__init__" = some (some (.builtin "ValueError.__init__"))) (h14 : PySem.W.mroIn K C (.ref C) = some true) (h15 : PySem.W.exmOne K (.ref C) (.ref C) = some true)
    (h16 : PySem.W.nsIn K cStatics "thirdparty.any" = some none) (h17 : K.lookup fI = some ⟨oc, od, .func (PySem.W.ksFn "__init__" "BadWord.__init__" (defArgs s_BadWordU_initU) (defBody s_BadWordU_initU) (defScope s_BadWordU_initU) .none .none doc pm an (.ref cda) ct cc), osl⟩) (h18 : PySem.W.codeIn K (.ref cda) "BadWord.__init__" = true)
    (h19 : K.lookup cda = some ⟨ccl, cdd, .fields vs, ccs⟩) (h20 : vs[2]? = some (.str P.main.file tf)) (h21 : K.lookup cc = some ⟨cl, cld, .cell (some (.ref C)), csl⟩) (nf0 : PySem.W.findIn K (.ref C) "word" = some none) : ErrC P K C fI s_BadWordU_initU "BadWord.__init__" ["word"] ef_BadWord := by
  refine ⟨⟨nm, qn, N, bs, bm, sn, sub, ab, col, dd, k0, k1, k2, k3, k5, h1, h2⟩, h3, h4, h5, ?_, h6, h7, h8, h9, h10, h11, h12, h13, h14, h15, h16, ⟨oc, od, doc, pm, an, cda, cc, ct, osl, ccl, cdd, vs, ccs, tf, cl, cld, csl, h17, h18, h19, h20, h21⟩, ⟨_, rfl, rfl⟩, (fun _ _ _ _ _ _ us hl => match us, hl with | [_, _], _ => rfl),
    ⟨_, _, _, _, _, _, _, _, _, rfl, (.par (i := 0) rfl .nil), fun L cda cc => ⟨_, rfl⟩⟩, rfl, rfl, rfl, by decide +kernel, by decide +kernel, rfl, rfl, by decide +kernel, by decide +kernel⟩
  intro p hp
  rcases List.mem_cons.mp hp with rfl | hp
  · exact nf0
  · exact absurd hp (by simp)
abbrev ef_BadMode : List (Str × Sum Nat Str) := [("mode", .inl 0)]
theorem ec_BadMode {K : PySem.W.Frag} {C fI : Addr} {nm qn : Str} {N : Addr} {bs bm : List Value} {sn : List Str} {sub : List Value} {ab : Bool} {col : Option Bool} {dd : Option Addr} {k0 k1 k2 k3 k5 : Option Value}
    {oc : Value} {od : Option Addr} {doc pm : Value} {an : Option Addr} {cda cc : Addr} {ct : Value} {osl : Array (Option Value)} {ccl : Value} {cdd : Option Addr} {vs : Array Value} {ccs : Array (Option Value)} {tf : Tok} {cl : Value} {cld : Option Addr} {csl : Array (Option Value)}
    (h1 : K.lookup C = some (excClassObj nm qn C N bs bm true sn sub ab col dd k0 k1 k2 k3 k5 "ValueError.__new__")) (h2 : PySem.HandSPX.refsVE bm = true) (h3 : PySem.W.findIn K (.ref C) "__setattr__" = some (some (.builtin "object.__setattr__")))
    (h4 : PySem.W.findIn K (.ref C) "__getattribute__" = some (some (.builtin "BaseException.__getattribute__"))) (h5 : PySem.W.findIn K (.ref C) "__getattr__" = some none) (h6 : PySem.W.findIn K (.ref C) "__init__" = some (some (.ref fI)))
    (h7 : PySem.W.typeIn K (.ref fI) = some (.type "function")) (h8 : PySem.W.keepIn K (.ref C) = true) (h9 : PySem.W.subIn K (.ref C) (.type "BaseException") = some true) (h10 : PySem.W.subIn K (.ref C) (.type "ValueError") = some true)
    (h11 : PySem.W.typeIn K (.ref C) = some (.type "type")) (h12 : PySem.W.hasDictIn K C = true) (h13 : PySem.W.ks_superIn K C C "__init__" = some (some (.builtin "ValueError.__init__"))) (h14 : PySem.W.mroIn K C (.ref C) = some true) (h15 : PySem.W.exmOne K (.ref C) (.ref C) = some true)
    (h16 : PySem.W.nsIn K cStatics "thirdparty.any" = some none) (h17 : K.lookup fI = some ⟨oc, od, .func (PySem.W.ksFn "__init__" "BadMode.__init__" (defArgs s_BadModeU_initU) (defBody s_BadModeU_initU) (defScope s_BadModeU_initU) .none .none doc pm an (.ref cda) ct cc), osl⟩) (h18 : PySem.W.codeIn K (.ref cda) "BadMode.__init__" = true)
    (h19 : K.lookup cda = some ⟨ccl, cdd, .fields vs, ccs⟩) (h20 : vs[2]? = some (.str P.main.file tf)) (h21 : K.lookup cc = some ⟨cl, cld, .cell (some (.ref C)), csl⟩) (nf0 : PySem.W.findIn K (.ref C) "mode" = some none) : ErrC P K C fI s_BadModeU_initU "BadMode.__init__" ["mode"] ef_BadMode := by
  refine ⟨⟨nm, qn, N, bs, bm, sn, sub, ab, col, dd, k0, k1, k2, k3, k5, h1, h2⟩, h3, h4, h5, ?_, h6, h7, h8, h9, h10, h11, h12, h13, h14, h15, h16, ⟨oc, od, doc, pm, an, cda, cc, ct, osl, ccl, cdd, vs, ccs, tf, cl, cld, csl, h17, h18, h19, h20, h21⟩, ⟨_, rfl, rfl⟩, (fun _ _ _ _ _ _ us hl => match us, hl with | [_, _], _ => rfl),
    ⟨_, _, _, _, _, _, _, _, _, rfl, (.par (i := 0) rfl .nil), fun L cda cc => ⟨_, rfl⟩⟩, rfl, rfl, rfl, by decide +kernel, by decide +kernel, rfl, rfl, by decide +kernel, by decide +kernel⟩
  intro p hp
  rcases List.mem_cons.mp hp with rfl | hp
  · exact nf0
  · exact absurd hp (by simp)
structure Ad where
  Mode : Addr
  Mode_ALL : Addr
  Mode_is_mode : Addr
  p_Mode_is_mode : Addr
  is_word : Addr
  Missing : Addr
  MissingU_initU : Addr
  Present : Addr
  PresentU_initU : Addr
  Doomed : Addr
  DoomedU_initU : Addr
  Refused : Addr
  RefusedU_initU : Addr
  NoBlock : Addr
  NoBlockU_initU : Addr
  Waits : Addr
  WaitsU_initU : Addr
  NoRecord : Addr
  NoRecordU_initU : Addr
  BadWord : Addr
  BadWordU_initU : Addr
  BadMode : Addr
  BadModeU_initU : Addr
  Write : Addr
  WriteU_initU : Addr
  Transaction : Addr
  TransactionU_initU : Addr
  Database : Addr
  DatabaseU_initU : Addr
  Database_begin : Addr
  Database_enter_alone : Addr
  Database_enter_inside : Addr
  Database_enter : Addr
  Database_doom : Addr
  Database_end_level : Addr
  Database_end_transaction : Addr
  Database_leave : Addr
  Database_held_by : Addr
  Database_outer_records : Addr
  Database_would_wait : Addr
  Database_write : Addr
  DatabaseU_setitemU : Addr
  Database_sees : Addr
  DatabaseU_getitemU : Addr
  DatabaseU_containsU : Addr
  law_pool : Addr
  law_draw : Addr
  law_word : Addr
  law_seen : Addr
  law_odd : Addr
  law_deed : Addr
  law : Addr
structure Fd where
  Mode_is_mode : FuncData
  is_word : FuncData
  WriteU_initU : FuncData
  TransactionU_initU : FuncData
  DatabaseU_initU : FuncData
  Database_begin : FuncData
  Database_enter_alone : FuncData
  Database_enter_inside : FuncData
  Database_enter : FuncData
  Database_doom : FuncData
  Database_end_level : FuncData
  Database_end_transaction : FuncData
  Database_leave : FuncData
  Database_held_by : FuncData
  Database_outer_records : FuncData
  Database_would_wait : FuncData
  Database_write : FuncData
  DatabaseU_setitemU : FuncData
  Database_sees : FuncData
  DatabaseU_getitemU : FuncData
  DatabaseU_containsU : FuncData
  law_pool : FuncData
  law_draw : FuncData
  law_word : FuncData
  law_seen : FuncData
  law_odd : FuncData
  law_deed : FuncData
  law : FuncData
structure Txt (K : PySem.W.Frag) (mg : Str → Option Value) (a : Ad) (d : Fd) : Prop where
  g_Mode : mg "Mode" = some (.ref a.Mode)
  r_Mode : ClX.CRead K a.Mode (.type "type")
  c_Mode_JOIN : ∃ u, ClX.CVal K a.Mode (.type "type") "JOIN" (.str "join") u
  c_Mode_INNER : ∃ u, ClX.CVal K a.Mode (.type "type") "INNER" (.str "inner") u
  c_Mode_APART : ∃ u, ClX.CVal K a.Mode (.type "type") "APART" (.str "apart") u
  c_Mode_MUST : ∃ u, ClX.CVal K a.Mode (.type "type") "MUST" (.str "must") u
  c_Mode_EITHER : ∃ u, ClX.CVal K a.Mode (.type "type") "EITHER" (.str "either") u
  c_Mode_NEVER : ∃ u, ClX.CVal K a.Mode (.type "type") "NEVER" (.str "never") u
  c_Mode_OUTSIDE : ∃ u, ClX.CVal K a.Mode (.type "type") "OUTSIDE" (.str "outside") u
  c_Mode_ALONE : ∃ u, ClX.CVal K a.Mode (.type "type") "ALONE" (.str "alone") u
  c_Mode_ALL : ∃ u, ClX.CVal K a.Mode (.type "type") "ALL" (.ref a.Mode_ALL) u
  q_Mode_ALL : (∀ H, SqT K H a.Mode_ALL [.str "join", .str "inner", .str "apart", .str "must", .str "either", .str "never", .str "outside", .str "alone"])
  k_Mode_ALL : (∃ o, K.lookup a.Mode_ALL = some o ∧ o.cls = .type "tuple")
  Mode_is_mode : Fun K "is_mode" "Mode.is_mode" s_Mode_is_mode a.Mode_is_mode d.Mode_is_mode
  b_Mode_is_mode : Binds K d.Mode_is_mode ["thing"] []
  s_Mode_is_mode : SMet K a.Mode (.type "type") "is_mode" a.p_Mode_is_mode a.Mode_is_mode
  is_word : Fun K "is_word" "is_word" s_is_word a.is_word d.is_word
  b_is_word : Binds K d.is_word ["thing"] []
  g_is_word : mg "is_word" = some (.ref a.is_word)
  g_Missing : mg "Missing" = some (.ref a.Missing)
  e_Missing : ErrC P K a.Missing a.MissingU_initU s_MissingU_initU "Missing.__init__" ["mode"] ef_Missing
  g_Present : mg "Present" = some (.ref a.Present)
  e_Present : ErrC P K a.Present a.PresentU_initU s_PresentU_initU "Present.__init__" ["mode"] ef_Present
  g_Doomed : mg "Doomed" = some (.ref a.Doomed)
  e_Doomed : ErrC P K a.Doomed a.DoomedU_initU s_DoomedU_initU "Doomed.__init__" ["first"] ef_Doomed
  g_Refused : mg "Refused" = some (.ref a.Refused)
  e_Refused : ErrC P K a.Refused a.RefusedU_initU s_RefusedU_initU "Refused.__init__" [] ef_Refused
  g_NoBlock : mg "NoBlock" = some (.ref a.NoBlock)
  e_NoBlock : ErrC P K a.NoBlock a.NoBlockU_initU s_NoBlockU_initU "NoBlock.__init__" [] ef_NoBlock
  g_Waits : mg "Waits" = some (.ref a.Waits)
  e_Waits : ErrC P K a.Waits a.WaitsU_initU s_WaitsU_initU "Waits.__init__" ["record"] ef_Waits
  g_NoRecord : mg "NoRecord" = some (.ref a.NoRecord)
  e_NoRecord : ErrC P K a.NoRecord a.NoRecordU_initU s_NoRecordU_initU "NoRecord.__init__" ["record"] ef_NoRecord
  g_BadWord : mg "BadWord" = some (.ref a.BadWord)
  e_BadWord : ErrC P K a.BadWord a.BadWordU_initU s_BadWordU_initU "BadWord.__init__" ["word"] ef_BadWord
  g_BadMode : mg "BadMode" = some (.ref a.BadMode)
  e_BadMode : ErrC P K a.BadMode a.BadModeU_initU s_BadModeU_initU "BadMode.__init__" ["mode"] ef_BadMode
  g_Write : mg "Write" = some (.ref a.Write)
  k_Write : Cls K a.Write
  na_Write_record : NoAttr K a.Write "record"
  na_Write_value : NoAttr K a.Write "value"
  na_Write_fate : NoAttr K a.Write "fate"
  na_Write_holder : NoAttr K a.Write "holder"
  na_Write_level : NoAttr K a.Write "level"
  WriteU_initU : Fun K "__init__" "Write.__init__" s_WriteU_initU a.WriteU_initU d.WriteU_initU
  b_WriteU_initU : Binds K d.WriteU_initU ["self", "record", "value", "fate", "holder", "level"] []
  mk_Write : Mk K a.Write a.WriteU_initU
  g_Transaction : mg "Transaction" = some (.ref a.Transaction)
  k_Transaction : Cls K a.Transaction
  na_Transaction_number : NoAttr K a.Transaction "number"
  na_Transaction_reasons : NoAttr K a.Transaction "reasons"
  TransactionU_initU : Fun K "__init__" "Transaction.__init__" s_TransactionU_initU a.TransactionU_initU d.TransactionU_initU
  b_TransactionU_initU : Binds K d.TransactionU_initU ["self", "number"] []
  mk_Transaction : Mk K a.Transaction a.TransactionU_initU
  g_Database : mg "Database" = some (.ref a.Database)
  k_Database : Cls K a.Database
  na_Database_rows : NoAttr K a.Database "rows"
  na_Database_stack : NoAttr K a.Database "stack"
  na_Database_entered : NoAttr K a.Database "entered"
  na_Database_floor : NoAttr K a.Database "floor"
  na_Database_opened : NoAttr K a.Database "opened"
  DatabaseU_initU : Fun K "__init__" "Database.__init__" s_DatabaseU_initU a.DatabaseU_initU d.DatabaseU_initU
  b_DatabaseU_initU : Binds K d.DatabaseU_initU ["self"] []
  mk_Database : Mk K a.Database a.DatabaseU_initU
  Database_begin : Fun K "begin" "Database.begin" s_Database_begin a.Database_begin d.Database_begin
  b_Database_begin : Binds K d.Database_begin ["self"] []
  m_Database_begin : Meth K a.Database "begin" a.Database_begin
  Database_enter_alone : Fun K "enter_alone" "Database.enter_alone" s_Database_enter_alone a.Database_enter_alone d.Database_enter_alone
  b_Database_enter_alone : Binds K d.Database_enter_alone ["self", "mode"] []
  m_Database_enter_alone : Meth K a.Database "enter_alone" a.Database_enter_alone
  Database_enter_inside : Fun K "enter_inside" "Database.enter_inside" s_Database_enter_inside a.Database_enter_inside d.Database_enter_inside
  b_Database_enter_inside : Binds K d.Database_enter_inside ["self", "mode", "present"] []
  m_Database_enter_inside : Meth K a.Database "enter_inside" a.Database_enter_inside
  Database_enter : Fun K "enter" "Database.enter" s_Database_enter a.Database_enter d.Database_enter
  b_Database_enter : Binds K d.Database_enter ["self", "mode"] []
  m_Database_enter : Meth K a.Database "enter" a.Database_enter
  Database_doom : FunD K "doom" "Database.doom" (defArgs s_Database_doom) (defBody s_Database_doom) (defScope s_Database_doom) [.str "doom"] [] a.Database_doom d.Database_doom
  m_Database_doom : Meth K a.Database "doom" a.Database_doom
  Database_end_level : Fun K "end_level" "Database.end_level" s_Database_end_level a.Database_end_level d.Database_end_level
  b_Database_end_level : Binds K d.Database_end_level ["self", "error"] []
  m_Database_end_level : Meth K a.Database "end_level" a.Database_end_level
  Database_end_transaction : Fun K "end_transaction" "Database.end_transaction" s_Database_end_transaction a.Database_end_transaction d.Database_end_transaction
  b_Database_end_transaction : Binds K d.Database_end_transaction ["self", "error", "commits"] []
  m_Database_end_transaction : Meth K a.Database "end_transaction" a.Database_end_transaction
  Database_leave : FunD K "leave" "Database.leave" (defArgs s_Database_leave) (defBody s_Database_leave) (defScope s_Database_leave) [.non] [("commits", .bl true)] a.Database_leave d.Database_leave
  m_Database_leave : Meth K a.Database "leave" a.Database_leave
  Database_held_by : Fun K "held_by" "Database.held_by" s_Database_held_by a.Database_held_by d.Database_held_by
  b_Database_held_by : Binds K d.Database_held_by ["self", "numbers"] []
  m_Database_held_by : Meth K a.Database "held_by" a.Database_held_by
  Database_outer_records : Fun K "outer_records" "Database.outer_records" s_Database_outer_records a.Database_outer_records d.Database_outer_records
  b_Database_outer_records : Binds K d.Database_outer_records ["self"] []
  m_Database_outer_records : Meth K a.Database "outer_records" a.Database_outer_records
  Database_would_wait : Fun K "would_wait" "Database.would_wait" s_Database_would_wait a.Database_would_wait d.Database_would_wait
  b_Database_would_wait : Binds K d.Database_would_wait ["self", "record"] []
  m_Database_would_wait : Meth K a.Database "would_wait" a.Database_would_wait
  Database_write : Fun K "write" "Database.write" s_Database_write a.Database_write d.Database_write
  b_Database_write : Binds K d.Database_write ["self", "record", "value"] []
  m_Database_write : Meth K a.Database "write" a.Database_write
  DatabaseU_setitemU : Fun K "__setitem__" "Database.__setitem__" s_DatabaseU_setitemU a.DatabaseU_setitemU d.DatabaseU_setitemU
  b_DatabaseU_setitemU : Binds K d.DatabaseU_setitemU ["self", "record", "value"] []
  m_DatabaseU_setitemU : Meth K a.Database "__setitem__" a.DatabaseU_setitemU
  Database_sees : Fun K "sees" "Database.sees" s_Database_sees a.Database_sees d.Database_sees
  b_Database_sees : Binds K d.Database_sees ["self", "row"] []
  m_Database_sees : Meth K a.Database "sees" a.Database_sees
  DatabaseU_getitemU : Fun K "__getitem__" "Database.__getitem__" s_DatabaseU_getitemU a.DatabaseU_getitemU d.DatabaseU_getitemU
  b_DatabaseU_getitemU : Binds K d.DatabaseU_getitemU ["self", "record"] []
  m_DatabaseU_getitemU : Meth K a.Database "__getitem__" a.DatabaseU_getitemU
  DatabaseU_containsU : Fun K "__contains__" "Database.__contains__" s_DatabaseU_containsU a.DatabaseU_containsU d.DatabaseU_containsU
  b_DatabaseU_containsU : Binds K d.DatabaseU_containsU ["self", "record"] []
  m_DatabaseU_containsU : Meth K a.Database "__contains__" a.DatabaseU_containsU
  ns_Database : PySem.W.noSeq K a.Database = true
  law_pool : Fun K "_law_pool" "_law_pool" s_law_pool a.law_pool d.law_pool
  b_law_pool : Binds K d.law_pool ["_law_script", "_law_at"] []
  g_law_pool : mg "_law_pool" = some (.ref a.law_pool)
  law_draw : Fun K "_law_draw" "_law_draw" s_law_draw a.law_draw d.law_draw
  b_law_draw : Binds K d.law_draw ["_law_pool_here", "_law_many"] []
  g_law_draw : mg "_law_draw" = some (.ref a.law_draw)
  law_word : Fun K "_law_word" "_law_word" s_law_word a.law_word d.law_word
  b_law_word : Binds K d.law_word ["_law_pool_here"] []
  g_law_word : mg "_law_word" = some (.ref a.law_word)
  law_seen : Fun K "_law_seen" "_law_seen" s_law_seen a.law_seen d.law_seen
  b_law_seen : Binds K d.law_seen ["_law_db", "_law_record", "_law_due"] []
  g_law_seen : mg "_law_seen" = some (.ref a.law_seen)
  law_odd : Fun K "_law_odd" "_law_odd" s_law_odd a.law_odd d.law_odd
  b_law_odd : Binds K d.law_odd ["_law_db", "_law_thing"] []
  g_law_odd : mg "_law_odd" = some (.ref a.law_odd)
  law_deed : Fun K "_law_deed" "_law_deed" s_law_deed a.law_deed d.law_deed
  b_law_deed : Binds K d.law_deed ["_law_pool_here", "_law_db", "_law_values", "_law_depth"] []
  g_law_deed : mg "_law_deed" = some (.ref a.law_deed)
  law : Fun K "law" "law" s_law a.law d.law
  b_law : Binds K d.law ["_law_script"] []
  g_law : mg "law" = some (.ref a.law)
  n_isinstance : mg "isinstance" = none
  n_str : mg "str" = none
  n_len : mg "len" = none
  n_super : mg "super" = none
  n_sorted : mg "sorted" = none
  n_abs : mg "abs" = none
  n_int : mg "int" = none
  n_range : mg "range" = none
  n_bool : mg "bool" = none
  n_max : mg "max" = none
  n_min : mg "min" = none
  fi_DatabaseU_getitemU : PySem.W.fnIn K a.DatabaseU_getitemU = true

section
variable {w : World} {K : PySem.W.Frag} {mg : Str → Option Value} {base : Heap} {a : Ad} {d : Fd}
theorem ok_law_draw (T : Txt K mg a d) : FnOk P w K mg base CX0 1 a.law_draw d.law_draw ["_law_pool_here", "_law_many"] spDraw := by
  refine T.law_draw.ok sc_law_draw (fun vs H Q E h => ?_) (fun cdv A outer s H vs Q E hr h => ?_)
  · obtain ⟨p, m, c, o, rfl, _⟩ := h
    rfl
  · obtain ⟨p, m, c, o, rfl, hp, ⟨x, y, n, rfl, hx, hy, hy2, hn, hn2⟩, hm, hm2, hc, k⟩ := h
    have hw : ∀ i : Int, CDivW i m := fun i => wide_div (b := 200) hm (by omega) (by decide) (by decide)
    have e1 : (b2 : Int) → 0 ≤ b2 → b2 < 2 ^ 62 → CPow (b2 + 48611 * (n + 1)) 3 := fun b2 h1 h2 => ⟨by decide, by decide, by omega⟩
    have e2 : (b2 : Int) → 0 ≤ b2 → b2 < 2 ^ 62 → CPow (b2 + 104729 * (n + 1)) 3 := fun b2 h1 h2 => ⟨by decide, by decide, by omega⟩
    have e3 : ∀ i j : Int, -1000000 < i → i < 1000000 → CMul i j := fun i j h1 h2 => .inl ⟨by omega, by omega⟩
    refine ⟨_, (pss_cons (ps_if (pt_cmpR op_gt (pe_ix ix_list (pv 0) pe_int (fun _ _ => rfl)) pe_int (nomark _)) (pss_cons (ps_set (i := 2) sc_law_draw.nd rfl (Or.inl rfl) (pe_op op_mod (pe_callTy call_int1 (by rfl) T.n_int (by decide +kernel) (pa_cons (pe_ix ix_list (pv 0) pe_int (fun _ _ => rfl)) pa_nil)) (pv 1)))
  (pss_cons (ps_asg (pe_op op_fdivW (pe_ix ix_list (pv 0) pe_int (fun _ _ => rfl)) (pv 1)) (pg_sub (pv 0) pe_int set_list))
  (pss_one (ps_ret (pv 2))))) pss_nil)
  (pss_cons (ps_set (i := 3) sc_law_draw.nd rfl (Or.inl rfl) (pe_op op_add (pe_ix ix_list (pv 0) pe_int (fun _ _ => rfl)) pe_int))
  (pss_cons (ps_asg (pv 3) (pg_sub (pv 0) pe_int set_list))
  (pss_cons (ps_set (i := 4) sc_law_draw.nd rfl (Or.inl rfl) (pe_op op_mod (pe_callTy call_int1 (by rfl) T.n_int (by decide +kernel) (pa_cons (pe_op op_add (pe_op op_pow (pe_op op_add (pe_ix ix_list (pv 0) pe_int (fun _ _ => rfl)) (pe_op op_mul pe_int (pv 3))) pe_int) (pe_op op_mul pe_int (pv 3))) pa_nil)) pe_int))
  (pss_cons (ps_set (i := 4) sc_law_draw.nd rfl (Or.inl rfl) (pe_op op_mod (pe_callTy call_int1 (by rfl) T.n_int (by decide +kernel) (pa_cons (pe_op op_pow (pe_op op_add (pv 4) (pe_op op_mul pe_int (pv 3))) pe_int) pa_nil)) pe_int))
  (pss_one (ps_ret (pe_op op_mod (pe_callTy call_int1 (by rfl) T.n_int (by decide +kernel) (pa_cons (pe_op op_fdivW (pv 4) pe_int) pa_nil)) (pv 1))))))))), ?_⟩
    dsimp only [cxOf]
    walk_at "rd"
    refine ite2 (fun c0 => ?_) (fun c0 => ?_)
    · have c1 : 0 < x := of_decide_eq_true c0
      walk_at "rd"
      refine And.intro (hw _) ?_
      walk_at "rd"
      refine k _ _ (Int.emod_nonneg _ (by omega)) (Int.emod_lt_of_pos _ hm) ⟨_, _, _, rfl, Int.ediv_nonneg (by omega) (by omega), hy, hy2, hn, by omega⟩
    · walk_at "rd"
      refine And.intro (e1 _ hy hy2) ?_
      walk_at "rd"
      refine And.intro (e2 _ (Int.emod_nonneg _ (by decide)) (Int.lt_trans (Int.emod_lt_of_pos _ (by decide)) (by decide))) ?_
      walk_at "rd"
      refine k _ _ (Int.emod_nonneg _ (by omega)) (Int.emod_lt_of_pos _ hm) ⟨_, _, _, rfl, hx, hy, hy2, by omega, by omega⟩
theorem ok_law_pool (T : Txt K mg a d) : FnOk P w K mg base CX0 1 a.law_pool d.law_pool ["_law_script", "_law_at"] (spPool K) := by
  refine T.law_pool.ok sc_law_pool (fun vs H Q E h => ?_) (fun cdv A outer s H vs Q E hr h => ?_)
  · obtain ⟨p, ns, i, rfl, _⟩ := h
    rfl
  · obtain ⟨p, ns, i, rfl, hS, hi, k⟩ := h
    have e3 : ∀ i j : Int, -1000000 < i → i < 1000000 → CMul i j := fun i j h1 h2 => .inl ⟨by omega, by omega⟩
    have e4 : ∀ i j : Int, -1000000 < j → j < 1000000 → CMul i j := fun i j h1 h2 => .inr ⟨by omega, by omega⟩
    refine ⟨_, (pss_cons (ps_set (i := 2) sc_law_pool.nd rfl (Or.inl rfl) (pe_ifExp (pt_cmpR op_lt (pv 1) (pe_callB call_len_seq (by rfl) T.n_len PySem.boot_len (pa_cons (pv 0) pa_nil)) (nomark _)) (pe_ix ix_list (pv 0) (pv 1) (fun _ _ => rfl)) pe_int))
  (pss_cons (ps_set (i := 3) sc_law_pool.nd rfl (Or.inl rfl) (pe_callB call_abs (by rfl) T.n_abs (by decide +kernel) (pa_cons (pv 2) pa_nil)))
  (pss_cons (ps_set (i := 4) sc_law_pool.nd rfl (Or.inl rfl) (pe_op op_mod (pe_callTy call_int1 (by rfl) T.n_int (by decide +kernel) (pa_cons (pe_op op_add (pe_op op_add (pe_op op_mul (pv 3) pe_int) (pe_op op_mul pe_int (pv 1))) (pe_callTy call_int1 (by rfl) T.n_int (by decide +kernel) (pa_cons (pe_cmpR op_lt (pv 2) pe_int (nomark _)) pa_nil))) pa_nil)) pe_int))
  (pss_one (ps_ret (pe_lst (pa_cons (pe_ifExp (pt_cmpR op_ge (pv 3) (pe_op op_pow pe_int pe_int) (nomark _)) (pv 3) pe_int) (pa_cons (pe_op op_add (pv 4) pe_int) (pa_cons pe_int pa_nil))))))))), ?_⟩
    dsimp only [cxOf]
    walk_at "rd"
    refine ite2 (fun c0 => ?_) (fun c0 => ?_)
    · have c1 : (i : Int) < ((ns.map V.int).length : Int) := of_decide_eq_true c0
      rw [List.length_map] at c1
      have c2 : i < ns.length := by omega
      have hz : (ns.map V.int)[i]? = some (.int ns[i]) := by
        rw [List.getElem?_map, List.getElem?_eq_getElem c2]; rfl
      walk_at "rd"
      refine And.intro (atI_nat hz) ?_
      walk_at "rd"
      refine ite2 (fun c2 => ?_) (fun c2 => ?_)
      all_goals
        walk_at "rd"
        intro q hq
        exact k q _ hq ⟨_, _, _, rfl, (by first | (split <;> omega) | decide), Int.add_nonneg (Int.emod_nonneg _ (by decide)) (by decide), Int.lt_trans (Int.add_lt_add_right (Int.emod_lt_of_pos _ (by decide)) _) (by decide), Int.le_refl 0, Int.le_refl 0⟩
    · walk_at "rd"
      intro q hq
      exact k q _ hq ⟨_, _, _, rfl, Int.le_refl 0, Int.add_nonneg (Int.emod_nonneg _ (by decide)) (by decide), Int.lt_trans (Int.add_lt_add_right (Int.emod_lt_of_pos _ (by decide)) _) (by decide), Int.le_refl 0, Int.le_refl 0⟩
theorem ok_law_word (T : Txt K mg a d) : FnOk P w K mg base CX0 2 a.law_word d.law_word ["_law_pool_here"] spWord := by
  have G_law_draw : FnOk P w K mg base CX0 1 a.law_draw d.law_draw ["_law_pool_here", "_law_many"] spDraw := ok_law_draw T
  refine T.law_word.ok sc_law_word (fun vs H Q E h => ?_) (fun cdv A outer s H vs Q E hr h => ?_)
  · obtain ⟨p, c, o, rfl, _⟩ := h
    rfl
  · obtain ⟨p, c, o, rfl, hp, hc, hb, k⟩ := h
    refine ⟨_, (pss_cons (ps_set (i := 1) sc_law_word.nd rfl (Or.inr rfl) pe_str)
  (pss_one (ps_ret (pe_join pe_str (pe_lc (own := [("_law_k", 2)]) (tt := tYes) rfl sc_law_word.nd (pi_range1 (by rfl) T.n_range (pa_cons (pe_op op_add pe_int (pe_call G_law_draw (hr.mono (by decide)) (by rfl) T.g_law_draw T.law_draw.kp T.b_law_draw .nil pass0 (pa_cons (pv 0) (pa_cons pe_int pa_nil)))) pa_nil)) (blkOk_by (own := [("_law_k", 2)]) (N := ["_law_pool_here", "_law_letters", "_law_k"]) (sc := defScope s_law_word) (by decide +kernel)) (fun _ _ _ _ _ => (pg_name (i := 2) sc_law_word.nd rfl (Or.inl rfl))) (fun _ _ _ _ _ => pts_nil) (fun _ _ _ _ _ => (pe_ix ix_str (pv 1) (pe_call G_law_draw (hr.mono (by decide)) (by rfl) T.g_law_draw T.law_draw.kp T.b_law_draw .nil pass0 (pa_cons (pv 0) (pa_cons pe_int pa_nil))) (fun _ _ => rfl)))))))), ?_⟩
    dsimp only [cxOf]
    walk_at "rd"
    intro r o1 r0 r1 h1
    walk_at "rd"
    intro D hD
    refine lc_letters (c := c + 1) hD upd_same h1 (by omega) (by omega) rfl rfl (by decide) (by decide) fun H' cs o2 e1 e2 e3 e4 e5 e6 => ?_
    refine ⟨_, _, cs.map chr1, rfl, rfl, Or.inl (SqL.of e6), ?_, ?_⟩
    · rw [sum_chr, e1]
      have : (Str.ofString "").length = 0 := by decide +kernel
      rw [this]; omega
    · rw [join_chr]
      refine k _ o2 _ ⟨?_, ?_, e2⟩ (e5.mono (by omega)) e4 (Kp.refl.set1.trans e3)
      · show 1 ≤ cs.length
        omega
      · show cs.length ≤ 8
        omega
theorem ok_is_word (T : Txt K mg a d) : FnOk P w K mg base CX0 1 a.is_word d.is_word ["thing"] spIsWord := by
  refine T.is_word.ok sc_is_word (fun vs H Q E h => ?_) (fun cdv A outer s H vs Q E hr h => ?_)
  · obtain ⟨v, rfl, _⟩ := h
    rfl
  · obtain ⟨v, rfl, hv, k⟩ := h
    refine ⟨_, (pss_cons (ps_if (PW.pt (pw_or (pt_not (pt_val (pe_callB call_isi (by rfl) T.n_isinstance (by decide +kernel) (pa_cons (pv 0) (pa_cons (pe_bltn (v := .ty "str") (u := .type "str") (by rfl) T.n_str (by decide +kernel) rfl) pa_nil))))) (pw_or1 (pt_not (pt_chain op_le op_le pe_int (pe_callB call_len_str (by rfl) T.n_len PySem.boot_len (pa_cons (pv 0) pa_nil)) pe_int))))) (pss_one (ps_ret pe_bl)) pss_nil)
  (pss_cons (ps_for PassesOwn.never rfl (pi_str (pv 0)) (pg_name (i := 1) sc_is_word.nd rfl (Or.inl rfl))
  (pss_one (ps_if (pt_not (pt_chain op_le_str op_le_str pe_str (pv 1) pe_str)) (pss_one (ps_ret pe_bl)) pss_nil)))
  (pss_one (ps_ret pe_bl)))), ?_⟩
    dsimp only [cxOf]
    obtain ⟨ty, h1, h2⟩ := hv.isi (K := K)
    refine ⟨_, rfl, _, _, _, _, _, rfl, ClsV.ty _, h1, h2, _, rfl, ?_⟩
    cases hv with
    | str z hz ha0 =>
      refine iteF ?_
      have hs : z.length ≤ sizeLine := by rw [sizeLine_eq]; omega
      refine ⟨_, rfl, z, rfl, hs, ?_⟩
      walk_at "rd"
      by_cases c1 : (1 : Int) ≤ (z.length : Int)
      · rw [decide_eq_true c1]
        refine iteT ?_
        walk_at "rd"
        by_cases c2 : (z.length : Int) ≤ 8
        · rw [decide_eq_true c2]
          refine iteF ?_
          walk_at "rd"
          refine for_it (walk_str (z := z)) (fun i σ H' => H' = H ∧ ∃ v, σ = [some (.str z), v] ∧ (z.cps.toList.take i).all okC = true) ?_ (fun _ _ _ _ _ => trivial) ?_ ?_
          · exact ⟨rfl, none, rfl, rfl⟩
          · rintro i x σ H1 H2 hi ⟨rfl, v, rfl, ha⟩ ⟨rfl, c, hc, rfl⟩
            have hc' : z.cps.toList[i]? = some c := by rw [Array.getElem?_toList]; exact hc
            walk_at "rd"
            rw [le_a]
            by_cases d1 : 97 ≤ c
            · rw [decide_eq_true d1]
              refine iteT ?_
              walk_at "rd"
              rw [le_z]
              by_cases d2 : c ≤ 122
              · rw [decide_eq_true d2]
                refine iteF ?_
                refine ⟨rfl, _, rfl, all_take hc' ha ?_⟩
                unfold okC; rw [decide_eq_true d1, decide_eq_true d2]; rfl
              · rw [decide_eq_false d2]
                refine iteT ?_
                have : wordB (.str z) = false := by
                  show wordS z = false
                  unfold wordS; rw [all_no hc' (show okC c = false by unfold okC; rw [decide_eq_false d2, Bool.and_false]), Bool.and_false]
                rw [this] at k
                exact k
            · rw [decide_eq_false d1]
              refine iteF ?_
              walk_at "rd"
              refine iteT ?_
              have : wordB (.str z) = false := by
                show wordS z = false
                unfold wordS; rw [all_no hc' (show okC c = false by unfold okC; rw [decide_eq_false d1, Bool.false_and]), Bool.and_false]
              rw [this] at k
              exact k
          · rintro σ H1 ⟨rfl, v, rfl, ha⟩
            have e : (z.cps.toList.take z.cps.size) = z.cps.toList := List.take_of_length_le (by simp)
            rw [e] at ha
            have : wordB (.str z) = true := by
              show wordS z = true
              unfold wordS; rw [ha, decide_eq_true (show 1 ≤ z.length by omega), decide_eq_true (show z.length ≤ 8 by omega)]; rfl
            rw [this] at k
            exact k
        · rw [decide_eq_false c2]
          refine iteT ?_
          have : wordB (.str z) = false := by
            show wordS z = false
            unfold wordS; rw [decide_eq_false (show ¬ z.length ≤ 8 by omega), Bool.and_false, Bool.false_and]
          rw [this] at k
          exact k
      · rw [decide_eq_false c1]
        refine iteF ?_
        walk_at "rd"
        refine iteT ?_
        have : wordB (.str z) = false := by
          show wordS z = false
          unfold wordS; rw [decide_eq_false (show ¬ 1 ≤ z.length by omega), Bool.false_and, Bool.false_and]
        rw [this] at k
        exact k
    | int i => exact iteT (iteT k)
    | bl b => exact iteT (iteT k)
    | non => exact iteT (iteT k)
    | lst h => exact iteT (iteT k)
    | tup h => exact iteT (iteT k)
/-! ### modes -/
abbrev modesS : List Str := ["join", "inner", "apart", "must", "either", "never", "outside", "alone"]
abbrev modesV : List V := [.str "join", .str "inner", .str "apart", .str "must", .str "either", .str "never", .str "outside", .str "alone"]
def modeB (v : V) : Bool := strB v && inV v modesV
theorem strB_flat {v : V} (h : strB v = true) : flatV v = true := by
  cases v <;> first | rfl | cases h
def spIsMode : Sp := fun vs H Q _ => ∃ v, vs = [v] ∧ Thing H v ∧ Q (.bl (modeB v)) H
theorem ok_Mode_is_mode (T : Txt K mg a d) : FnOk P w K mg base CX0 1 a.Mode_is_mode d.Mode_is_mode ["thing"] spIsMode := by
  refine T.Mode_is_mode.ok sc_Mode_is_mode (fun vs H Q E h => ?_) (fun cdv A outer s H vs Q E hr h => ?_)
  · obtain ⟨v, rfl, _⟩ := h
    rfl
  · obtain ⟨v, rfl, hv, k⟩ := h
    refine ⟨_, (pss_one (ps_ret (pe_and (pe_callB call_isi (by rfl) T.n_isinstance (by decide +kernel) (pa_cons (pv 0) (pa_cons (pe_bltn (v := .ty "str") (u := .type "str") (by rfl) T.n_str (by decide +kernel) rfl) pa_nil))) (pe_one (pe_cmpR op_in_seq (pv 0) (ClX.pe_cval (pe_glob (v := .ref a.Mode) (by rfl) T.g_Mode rfl)) (by rfl)))))), ?_⟩
    dsimp only [cxOf]
    obtain ⟨ty, h1, h2⟩ := hv.isi (K := K)
    refine ⟨_, rfl, _, _, _, _, _, rfl, ClsV.ty _, h1, h2, _, rfl, ?_⟩
    obtain ⟨u, hu⟩ := T.c_Mode_ALL
    unfold modeB at k
    cases hb : strB v with
    | true =>
      rw [hb] at k
      refine iteT ⟨_, rfl, _, _, _, _, rfl, T.r_Mode, hu, _, _, rfl, .inr (T.q_Mode_ALL H), strB_flat hb, rfl, k⟩
    | false =>
      rw [hb] at k
      exact iteF k
theorem mode_thing {H : Hp} {m : Str} (h : m ∈ modesS) : Thing H (.str m) := by
  refine .str m ?_ ?_
  · have : modesS.all (fun m => decide (m.length ≤ 1000)) = true := by decide +kernel
    exact of_decide_eq_true (List.all_eq_true.mp this m h)
  · intro c hc
    have : modesS.all (fun m => m.cps.toList.all fun c => decide (c < 128)) = true := by decide +kernel
    exact of_decide_eq_true (List.all_eq_true.mp (List.all_eq_true.mp this m h) c hc)
theorem mode_isB {m : Str} (h : m ∈ modesS) : modeB (.str m) = true := by
  have : modesS.all (fun m => modeB (.str m)) = true := by decide +kernel
  exact List.all_eq_true.mp this m h
/-! ### Transaction(n), Database() -/
abbrev DB (a : Ad) := DbAt a.Database a.Transaction a.Write
def spTxI (a : Ad) : Sp := fun vs H Q _ => ∃ (x dx : Addr) (n : Int), vs = [.ref x, .int n] ∧ H x = some (.ins a.Transaction dx []) ∧ ∀ q, H q = none → q ≠ x → Q .non (upd (upd (upd H x (.ins a.Transaction dx [("number", .int n)])) q (.lst [.non])) x (.ins a.Transaction dx (txF n q)))
theorem ok_TransactionU_initU (T : Txt K mg a d) : FnOk P w K mg base CX0 1 a.TransactionU_initU d.TransactionU_initU ["self", "number"] (spTxI a) := by
  refine T.TransactionU_initU.ok sc_TransactionU_initU (fun vs H Q E h => ?_) (fun cdv A outer s H vs Q E hr h => ?_)
  · obtain ⟨x, dx, n, rfl, _⟩ := h
    rfl
  · obtain ⟨x, dx, n, rfl, hx, k⟩ := h
    have c1 := T.k_Transaction
    have n1 := T.na_Transaction_number
    have n2 := T.na_Transaction_reasons
    refine ⟨_, (pss_cons (ps_fld (pv 0) (pv 1) rfl)
  (pss_one (ps_fld (pv 0) (pe_lst (pa_cons pe_non pa_nil)) rfl))), ?_⟩
    dsimp only [cxOf]
    walk_at "rd"
    intro q hq
    have hqx : q ≠ x := fun e => by rw [e, upd_same] at hq; cases hq
    rw [upd_ne hqx] at hq
    have h1 : (upd (upd H x (.ins a.Transaction dx [("number", .int n)])) q (.lst [.non])) x = some (.ins a.Transaction dx [("number", .int n)]) := upd_oth (Ne.symm hqx) upd_same
    walk_at "rd"
    exact k q hq hqx
def spDbI (a : Ad) : Sp := fun vs H Q _ => ∃ (x dx : Addr), vs = [.ref x] ∧ H x = some (.ins a.Database dx []) ∧
  ∀ H' L, DB a H' L ⟨[], [none], [], 0, 0⟩ → L.db = x → Kp (fun b => b = x) H H' → (∀ b, Mut L b → b = x ∨ H b = none) → Q .non H'
theorem ok_DatabaseU_initU (T : Txt K mg a d) : FnOk P w K mg base CX0 1 a.DatabaseU_initU d.DatabaseU_initU ["self"] (spDbI a) := by
  refine T.DatabaseU_initU.ok sc_DatabaseU_initU (fun vs H Q E h => ?_) (fun cdv A outer s H vs Q E hr h => ?_)
  · obtain ⟨x, dx, rfl, _⟩ := h
    rfl
  · obtain ⟨x, dx, rfl, hx, k⟩ := h
    have c1 := T.k_Database
    have n1 := T.na_Database_rows
    have n2 := T.na_Database_stack
    have n3 := T.na_Database_entered
    have n4 := T.na_Database_floor
    have n5 := T.na_Database_opened
    refine ⟨_, (pss_cons (ps_fld (pv 0) (pe_lst pa_nil) rfl)
  (pss_cons (ps_fld (pv 0) (pe_lst (pa_cons pe_non pa_nil)) rfl)
  (pss_cons (ps_fld (pv 0) (pe_lst pa_nil) rfl)
  (pss_cons (ps_fld (pv 0) pe_int rfl)
  (pss_one (ps_fld (pv 0) pe_int rfl)))))), ?_⟩
    dsimp only [cxOf]
    walk_at "rd"
    intro r hr0
    have nxr := ne_of_none hx hr0
    walk_at "rd"
    intro s1 hs
    obtain ⟨nsx, hs1⟩ := none_upd hs
    obtain ⟨nsr, hs2⟩ := none_upd hs1
    walk_at "rd"
    intro e1 he
    obtain ⟨nex, he1⟩ := none_upd he
    obtain ⟨nes, he2⟩ := none_upd he1
    obtain ⟨nex, he3⟩ := none_upd he2
    obtain ⟨ner, he4⟩ := none_upd he3
    walk_at "rd"
    refine k _ ⟨x, dx, r, s1, e1, [], [none]⟩ ⟨upd_same, ?_, ?_, ?_, .nil, .cons trivial .nil, Ne.symm nsr, Ne.symm ner, Ne.symm nes, (fun t m => by simp at m), by simp, by simp, by simp⟩ rfl ?_ ?_
    · show (_ : Hp) r = some (.lst [])
      walk_at "hp"
    · show (_ : Hp) s1 = some (.lst [.non])
      walk_at "hp"
    · show (_ : Hp) e1 = some (.lst [])
      walk_at "hp"
    · walk_at "kp"
    · intro b hb
      rcases hb with rfl | rfl | rfl | rfl | ⟨t, m, rfl⟩ | ⟨w, m, rfl⟩
      · exact .inl rfl
      · exact .inr hr0
      · exact .inr hs2
      · exact .inr he4
      · simp at m
      · simp at m
/-! ### the database's methods -/
structure Sm (D : Db) : Prop where
  e : D.entered.length ≤ 100000
  s : D.stack.length ≤ 100000
  r : ∀ x, some x ∈ D.stack → x.rs.length ≤ 100000
  n : D.rows.length ≤ 4000
inductive EK
  | missing (m : Str)
  | present (m : Str)
  | doomed (z : Str)
  | refused
  | noblock
  | waits (z : Str)
  | norecord (z : Str)
  | badword (v : V)
  | badmode (v : V)
def errE (a : Ad) (e : EK) (H : Hp) (E : XK) : Prop := match e with
  | .missing m => errQ a.Missing ef_Missing [.str m] H E
  | .present m => errQ a.Present ef_Present [.str m] H E
  | .doomed z => errQ a.Doomed ef_Doomed [.str z] H E
  | .refused => errQ a.Refused ef_Refused [] H E
  | .noblock => errQ a.NoBlock ef_NoBlock [] H E
  | .waits z => errQ a.Waits ef_Waits [.str z] H E
  | .norecord z => errQ a.NoRecord ef_NoRecord [.str z] H E
  | .badword v => errQ a.BadWord ef_BadWord [v] H E
  | .badmode v => errQ a.BadMode ef_BadMode [v] H E
/-- what a method leaves: the state, and an error or None -/
def outE (a : Ad) (r : Db × Option EK) (H : Hp) (L : Lay) (Q : VK) (E : XK) : Prop := ∀ H' L', DB a H' L' r.1 → Fr H H' L L' → match r.2 with
  | none => Q .non H'
  | some e => errE a e H' E
theorem outE.fr {a : Ad} {r : Db × Option EK} {H H1 : Hp} {L L1 : Lay} {Q : VK} {E : XK} (k : outE a r H L Q E) (f : Fr H H1 L L1) : outE a r H1 L1 Q E := fun H' L' d f' => k H' L' d (f.trans f')
def plainD (D : Db) (z : Str) : Db := { D with entered := z :: D.entered }
theorem outE.putE {a : Ad} {H : Hp} {L : Lay} {D : Db} {z : Str} {Q : VK} {E : XK} (hD : DB a H L D) (k : outE a (plainD D z, none) H L Q E) : Q .non (upd H L.e (.lst (rv V.str D.entered ++ [.str z]))) := by
  have := k _ _ (hD.setE (z :: D.entered)) (Fr.set DbAt.mutE)
  rw [rv_cons] at this
  exact this
def beginD (D : Db) : Db := { D with stack := some ⟨D.opened, [none]⟩ :: D.stack, opened := D.opened + 1, entered := "base" :: D.entered }
def spBegin (a : Ad) : Sp := fun vs H Q E => ∃ L D, vs = [.ref L.db] ∧ DB a H L D ∧ Sm D ∧ outE a (beginD D, none) H L Q E
theorem ts_len {a : Ad} {H : Hp} {L : Lay} {D : Db} (h : DB a H L D) (m : Sm D) : (rv tV L.ts).length < sizeLine := by
  rw [rv_len, h.txs.len, sizeLine_eq]
  have := m.s
  omega
theorem es_len {D : Db} (m : Sm D) : (rv V.str D.entered).length < sizeLine := by
  rw [rv_len, sizeLine_eq]
  have := m.e
  omega
theorem ok_Database_begin (T : Txt K mg a d) : FnOk P w K mg base CX0 3 a.Database_begin d.Database_begin ["self"] (spBegin a) := by
  have G_TransactionU_initU : FnOk P w K mg base CX0 1 a.TransactionU_initU d.TransactionU_initU ["self", "number"] (spTxI a) := ok_TransactionU_initU T
  refine T.Database_begin.ok sc_Database_begin (fun vs H Q E h => ?_) (fun cdv A outer s H vs Q E hr h => ?_)
  · obtain ⟨L, D, rfl, _⟩ := h
    rfl
  · obtain ⟨L, D, rfl, hD, hm, k⟩ := h
    have c1 := T.k_Database
    have n1 := T.na_Database_stack
    have n2 := T.na_Database_entered
    have n3 := T.na_Database_opened
    have h1 := hD.db
    have h2 := hD.s
    have h3 := hD.e
    have l1 := ts_len hD hm
    have l2 := es_len hm
    refine ⟨_, (pss_cons (ps_expr (pe_bm PySem.F.plainAttrs_list PySem.F.slot_list_append PySem.F.type_list_append mt_append (pe_fld (pv 0) rfl) (pa_cons (pe_make T.mk_Transaction G_TransactionU_initU (hr.mono (by decide)) (by rfl) T.g_Transaction T.b_TransactionU_initU .nil pass0 (pa_cons (pe_fld (pv 0) rfl) pa_nil)) pa_nil)))
  (pss_cons (ps_fldaug (pv 0) pe_int in_add)
  (pss_one (ps_expr (pe_bm PySem.F.plainAttrs_list PySem.F.slot_list_append PySem.F.type_list_append mt_append (pe_fld (pv 0) rfl) (pa_cons pe_str pa_nil)))))), ?_⟩
    dsimp only [cxOf]
    walk_at "rd"
    intro x dx hx hdx nxd
    refine ⟨x, dx, D.opened, rfl, upd_same, fun q hq nq => ⟨rfl, ?_⟩⟩
    obtain ⟨_, hq1⟩ := none_upd hq
    obtain ⟨nqd, hq2⟩ := none_upd hq1
    generalize hH1 : upd (upd (upd (upd (upd H dx (HO.own x)) x (HO.ins a.Transaction dx [])) x (HO.ins a.Transaction dx [("number", V.int D.opened)])) q (HO.lst [V.non])) x (HO.ins a.Transaction dx (txF D.opened q)) = H1
    have k1 : Same H H1 := fun b u e => by
      rw [← hH1]
      exact upd_oth (ne_of_none e hx) (upd_oth (ne_of_none e hq2) (upd_oth (ne_of_none e hx) (upd_oth (ne_of_none e hx) (upd_oth (ne_of_none e hdx) e))))
    have hx1 : H1 x = some (.ins a.Transaction dx (txF D.opened q)) := by rw [← hH1]; exact upd_same
    have hq3 : H1 q = some (.lst (rv oV [none])) := by rw [← hH1]; exact upd_oth nq upd_same
    have hD1 : DB a H1 L D := hD.keep fun b u _ e => k1 b u e
    have hD2 := hD1.pushT (t := ⟨x, dx, q⟩) hx1 hq3 (by simp) (hD.fresh hq2 )
    have f2 : Fr H _ L _ := Fr.pushT (t := ⟨x, dx, q⟩) (o := .lst (rv tV (some ⟨x, dx, q⟩ :: L.ts))) (.of_same k1) hq2
    rw [← show rv tV L.ts ++ [V.ref x] = rv tV (some ⟨x, dx, q⟩ :: L.ts) from (rv_cons (f := tV) (x := some ⟨x, dx, q⟩)).symm] at hD2 f2
    have g1 := hD1.s
    have g2 : upd H1 L.s (HO.lst (rv tV L.ts ++ [V.ref x])) L.db = some (.ins a.Database L.dx (dbF L.r L.s L.e D.floor D.opened)) := hD2.db
    have g3 : upd H1 L.s (HO.lst (rv tV L.ts ++ [V.ref x])) L.e = some (.lst (rv V.str D.entered)) := hD2.e
    have g4 : L.e ≠ L.db := Ne.symm (ins_ne h1 h3)
    walk_at "rd"
    have hD4 := (hD2.setD D.floor (D.opened + 1)).setE ("base" :: D.entered)
    have f4 := (f2.trans (Fr.set (o := .ins a.Database L.dx (dbF L.r L.s L.e D.floor (D.opened + 1))) DbAt.mutD)).trans (Fr.set (o := .lst (rv V.str ("base" :: D.entered))) DbAt.mutE)
    rw [rv_cons] at hD4 f4
    exact k _ _ hD4 f4
/-! ### enter -/
def aloneD (D : Db) (m : Str) : Db × Option EK :=
  if decide (V.str m = V.str "must") = true then (D, some (.missing m)) else if inV (.str m) [.str "either", .str "never", .str "outside"] = true then (plainD D "plain", none) else (beginD D, none)
def spAlone (a : Ad) : Sp := fun vs H Q E => ∃ L D m, vs = [.ref L.db, .str m] ∧ DB a H L D ∧ Sm D ∧ outE a (aloneD D m) H L Q E
theorem ok_Database_enter_alone (T : Txt K mg a d) : FnOk P w K mg base (L2.CX P w) 4 a.Database_enter_alone d.Database_enter_alone ["self", "mode"] (spAlone a) := by
  have G_Database_begin : FnOk P w K mg base CX0 3 a.Database_begin d.Database_begin ["self"] (spBegin a) := ok_Database_begin T
  refine T.Database_enter_alone.okX sc_Database_enter_alone (fun vs H Q E h => ?_) (fun cdv A outer s H vs Q E hr h => ?_)
  · obtain ⟨L, D, m, rfl, _⟩ := h
    rfl
  · obtain ⟨L, D, m, rfl, hD, hm, k⟩ := h
    have c1 := T.k_Database
    have n2 := T.na_Database_entered
    have h1 := hD.db
    have h3 := hD.e
    have l2 := es_len hm
    obtain ⟨u1, k1⟩ := T.c_Mode_MUST
    obtain ⟨u2, k2⟩ := T.c_Mode_EITHER
    obtain ⟨u3, k3⟩ := T.c_Mode_NEVER
    obtain ⟨u4, k4⟩ := T.c_Mode_OUTSIDE
    have r1 := T.r_Mode
    refine ⟨_, (pss_cons (ps_if (pt_cmpR op_eq (pv 1) (ClX.pe_cval (pe_glob (v := .ref a.Mode) (by rfl) T.g_Mode rfl)) (nomark _)) (pss_one (ps_raise rfl (takes_of rfl rfl rfl rfl) (pmk_err T.e_Missing T.g_Missing T.n_super hr (pa_cons (pv 1) pa_nil)))) pss_nil)
  (pss_one (ps_if (pt_cmpR op_in_seq (pv 1) (pe_tup (pa_cons (ClX.pe_cval (pe_glob (v := .ref a.Mode) (by rfl) T.g_Mode rfl)) (pa_cons (ClX.pe_cval (pe_glob (v := .ref a.Mode) (by rfl) T.g_Mode rfl)) (pa_cons (ClX.pe_cval (pe_glob (v := .ref a.Mode) (by rfl) T.g_Mode rfl)) pa_nil)))) (by rfl)) (pss_one (ps_expr (pe_bm PySem.F.plainAttrs_list PySem.F.slot_list_append PySem.F.type_list_append mt_append (pe_fld (pv 0) rfl) (pa_cons pe_str pa_nil)))) (pss_one (ps_expr (pe_meth0 (pv 0) T.k_Database T.m_Database_begin G_Database_begin (hr.mono (by decide)) T.b_Database_begin .nil pass0)))))), ?_⟩
    dsimp only [cxOf]
    walk_at "rd"
    unfold aloneD at k
    refine ite2 (fun c0 => ?_) (fun c0 => ?_)
    · rw [if_pos c0] at k
      walk_at "rd"
      exact k H L hD Fr.refl
    · rw [if_neg c0] at k
      walk_at "rd"
      intro p hp
      have hD1 : DB a _ L D := hD.new (o := .tup [.str "either", .str "never", .str "outside"]) hp
      have f1 : Fr H _ L L := Fr.refl.new (o := .tup [.str "either", .str "never", .str "outside"]) hp
      have h1 := hD1.db
      have h3 := hD1.e
      have hp1 := upd_same (H := H) (a := p) (o := .tup [.str "either", .str "never", .str "outside"])
      generalize upd H p (.tup [.str "either", .str "never", .str "outside"]) = H1 at hD1 f1 h1 h3 hp1 ⊢
      walk_at "rd"
      refine ite2 (fun c1 => ?_) (fun c1 => ?_)
      · rw [if_pos (show inV (V.str m) [V.str "either", V.str "never", V.str "outside"] = true from c1)] at k
        walk_at "rd"
        exact (k.fr f1).putE hD1
      · rw [if_neg (show ¬ inV (V.str m) [V.str "either", V.str "never", V.str "outside"] = true from c1)] at k
        walk_at "rd"
        exact ⟨L, D, rfl, hD1, hm, k.fr f1⟩
def lvlD (D : Db) (m : Str) (n : Int) (y : Option Str) (rs : List (Option Str)) (st : List (Option Tx)) : Db × Option EK :=
  if inV (.str m) [.str "never", .str "alone"] = true then (D, some (.present m)) else
  if decide (V.str m = V.str "inner") = true then (match y with
    | some z => (D, some (.doomed z))
    | none => (plainD { D with stack := some ⟨n, none :: y :: rs⟩ :: st } "level", none)) else
  if decide (V.str m = V.str "apart") = true then (beginD D, none) else
  if decide (V.str m = V.str "outside") = true then (plainD { D with stack := none :: D.stack } "outside", none) else (plainD D "joined", none)
def spInside (a : Ad) : Sp := fun vs H Q E => ∃ L D m t ts n y rs st, vs = [.ref L.db, .str m, .ref t.t] ∧ DB a H L D ∧ Sm D ∧ L.ts = some t :: ts ∧ D.stack = some ⟨n, y :: rs⟩ :: st ∧ outE a (lvlD D m n y rs st) H L Q E
theorem ok_Database_enter_inside (T : Txt K mg a d) : FnOk P w K mg base (L2.CX P w) 4 a.Database_enter_inside d.Database_enter_inside ["self", "mode", "present"] (spInside a) := by
  have G_Database_begin : FnOk P w K mg base CX0 3 a.Database_begin d.Database_begin ["self"] (spBegin a) := ok_Database_begin T
  refine T.Database_enter_inside.okX sc_Database_enter_inside (fun vs H Q E h => ?_) (fun cdv A outer s H vs Q E hr h => ?_)
  · obtain ⟨L, D, m, t, ts, n, y, rs, st, rfl, _⟩ := h
    rfl
  · obtain ⟨L, D, m, t, ts, n, y, rs, st, rfl, hD0, hm, et, es, k⟩ := h
    have c1 := T.k_Database
    have c2 := T.k_Transaction
    have n1 := T.na_Database_stack
    have n2 := T.na_Database_entered
    have n3 := T.na_Transaction_reasons
    obtain ⟨u1, k1⟩ := T.c_Mode_NEVER
    obtain ⟨u2, k2⟩ := T.c_Mode_ALONE
    obtain ⟨u3, k3⟩ := T.c_Mode_INNER
    obtain ⟨u4, k4⟩ := T.c_Mode_APART
    obtain ⟨u5, k5⟩ := T.c_Mode_OUTSIDE
    have r1 := T.r_Mode
    refine ⟨_, (pss_cons (ps_if (pt_cmpR op_in_seq (pv 1) (pe_tup (pa_cons (ClX.pe_cval (pe_glob (v := .ref a.Mode) (by rfl) T.g_Mode rfl)) (pa_cons (ClX.pe_cval (pe_glob (v := .ref a.Mode) (by rfl) T.g_Mode rfl)) pa_nil))) (by rfl)) (pss_one (ps_raise rfl (takes_of rfl rfl rfl rfl) (pmk_err T.e_Present T.g_Present T.n_super hr (pa_cons (pv 1) pa_nil)))) pss_nil)
  (pss_one (ps_if (pt_cmpR op_eq (pv 1) (ClX.pe_cval (pe_glob (v := .ref a.Mode) (by rfl) T.g_Mode rfl)) (nomark _)) (pss_cons (ps_if (pt_cmpR op_notN (pe_ix ix_list (pe_fld (pv 2) rfl) (pe_un un_neg pe_int) (fun _ _ => rfl)) pe_non (nomark _)) (pss_one (ps_raise rfl (takes_of rfl rfl rfl rfl) (pmk_err T.e_Doomed T.g_Doomed T.n_super hr (pa_cons (pe_ix ix_list (pe_fld (pv 2) rfl) (pe_un un_neg pe_int) (fun _ _ => rfl)) pa_nil)))) pss_nil)
  (pss_cons (ps_expr (pe_bm PySem.F.plainAttrs_list PySem.F.slot_list_append PySem.F.type_list_append mt_append (pe_fld (pv 2) rfl) (pa_cons pe_non pa_nil)))
  (pss_one (ps_expr (pe_bm PySem.F.plainAttrs_list PySem.F.slot_list_append PySem.F.type_list_append mt_append (pe_fld (pv 0) rfl) (pa_cons pe_str pa_nil)))))) (pss_one (ps_if (pt_cmpR op_eq (pv 1) (ClX.pe_cval (pe_glob (v := .ref a.Mode) (by rfl) T.g_Mode rfl)) (nomark _)) (pss_one (ps_expr (pe_meth0 (pv 0) T.k_Database T.m_Database_begin G_Database_begin (hr.mono (by decide)) T.b_Database_begin .nil pass0))) (pss_one (ps_if (pt_cmpR op_eq (pv 1) (ClX.pe_cval (pe_glob (v := .ref a.Mode) (by rfl) T.g_Mode rfl)) (nomark _)) (pss_cons (ps_expr (pe_bm PySem.F.plainAttrs_list PySem.F.slot_list_append PySem.F.type_list_append mt_append (pe_fld (pv 0) rfl) (pa_cons pe_non pa_nil)))
  (pss_one (ps_expr (pe_bm PySem.F.plainAttrs_list PySem.F.slot_list_append PySem.F.type_list_append mt_append (pe_fld (pv 0) rfl) (pa_cons pe_str pa_nil))))) (pss_one (ps_expr (pe_bm PySem.F.plainAttrs_list PySem.F.slot_list_append PySem.F.type_list_append mt_append (pe_fld (pv 0) rfl) (pa_cons pe_str pa_nil))))))))))), ?_⟩
    dsimp only [cxOf]
    walk_at "rd"
    intro p hp
    have hD : DB a _ L D := hD0.new (o := .tup [.str "never", .str "alone"]) hp
    have f1 : Fr H _ L L := Fr.refl.new (o := .tup [.str "never", .str "alone"]) hp
    have hp1 := upd_same (H := H) (a := p) (o := .tup [.str "never", .str "alone"])
    generalize upd H p (.tup [.str "never", .str "alone"]) = H1 at hD f1 hp1 ⊢
    replace k := k.fr f1
    have mt : some t ∈ L.ts := by rw [et]; exact List.mem_cons_self
    have h1 := hD.db
    have h2 := hD.s
    have h3 := hD.e
    have hx := hD.txs
    rw [et, es] at hx
    obtain ⟨h4, h5, h6⟩ : TxAt a.Transaction H1 (some t) (some ⟨n, y :: rs⟩) := by cases hx; assumption
    have e1 := rv_at (f := oV) (x := y) (l := rs)
    have l2 := es_len hm
    have l1 := ts_len hD hm
    unfold lvlD at k
    walk_at "rd"
    refine ite2 (fun b1 => ?_) (fun b1 => ?_)
    · rw [if_pos (show inV (V.str m) [V.str "never", V.str "alone"] = true from b1)] at k
      walk_at "rd"
      exact k H1 L hD Fr.refl
    rw [if_neg (show ¬ inV (V.str m) [V.str "never", V.str "alone"] = true from b1)] at k
    walk_at "rd"
    refine ite2 (fun b2 => ?_) (fun b2 => ?_)
    · rw [if_pos b2] at k
      have hd : ∀ z, H1 t.q ≠ some (.ins a.Database L.dx z) := fun z e => by rw [h5] at e; cases e
      walk_at "rd"
      cases y with
      | some z =>
        refine iteT ?_
        walk_at "rd"
        exact k H1 L hD Fr.refl
      | none =>
        refine iteF ?_
        have hD2 := hD.setQ (rs := none :: none :: rs) et es (by simp)
        have f2 := Fr.set (H := H1) (o := .lst (rv oV (none :: none :: rs))) (DbAt.mutQ mt)
        rw [show rv oV (none :: none :: rs) = rv oV (none :: rs) ++ [V.non] from rv_cons] at hD2 f2
        have g1 := hD2.db
        have g2 := hD2.e
        dsimp only at g1 g2
        have l3 : (rv oV (none :: rs)).length < sizeLine := by
          rw [rv_len, sizeLine_eq]
          have := hm.r ⟨n, none :: rs⟩ (by rw [es]; exact List.mem_cons_self)
          dsimp only at this
          omega
        walk_at "rd"
        have z := outE.putE hD2 (k.fr f2)
        exact z
    rw [if_neg b2] at k
    walk_at "rd"
    refine ite2 (fun b3 => ?_) (fun b3 => ?_)
    · rw [if_pos b3] at k
      walk_at "rd"
      exact ⟨L, D, rfl, hD, hm, k⟩
    rw [if_neg b3] at k
    walk_at "rd"
    refine ite2 (fun b4 => ?_) (fun b4 => ?_)
    · rw [if_pos b4] at k
      have hD2 := hD.pushN
      have f2 := Fr.pushN (H := H1) (L := L) (o := .lst (rv tV (none :: L.ts)))
      rw [show rv tV (none :: L.ts) = rv tV L.ts ++ [V.non] from rv_cons] at hD2 f2
      have g1 := hD2.db
      have g2 := hD2.e
      dsimp only at g1 g2
      walk_at "rd"
      have z := outE.putE hD2 (k.fr f2)
      exact z
    rw [if_neg b4] at k
    walk_at "rd"
    exact k.putE hD
def enterD (D : Db) (m : Str) : Db × Option EK := match D.stack with
  | none :: _ => aloneD D m
  | some ⟨n, y :: rs⟩ :: st => lvlD D m n y rs st
  | _ => (D, none)
def enterV (D : Db) (v : V) : Db × Option EK := if modeB v = true then (match v with
  | .str m => enterD D m
  | _ => (D, none)) else (D, some (.badmode v))
def spEnter (a : Ad) : Sp := fun vs H Q E => ∃ L D v, vs = [.ref L.db, v] ∧ Thing H v ∧ DB a H L D ∧ Sm D ∧ outE a (enterV D v) H L Q E
theorem ok_Database_enter (T : Txt K mg a d) : FnOk P w K mg base (L2.CX P w) 5 a.Database_enter d.Database_enter ["self", "mode"] (spEnter a) := by
  have G_Mode_is_mode : FnOk P w K mg base CX0 1 a.Mode_is_mode d.Mode_is_mode ["thing"] spIsMode := ok_Mode_is_mode T
  have G_Database_enter_alone : FnOk P w K mg base (L2.CX P w) 4 a.Database_enter_alone d.Database_enter_alone ["self", "mode"] (spAlone a) := ok_Database_enter_alone T
  have G_Database_enter_inside : FnOk P w K mg base (L2.CX P w) 4 a.Database_enter_inside d.Database_enter_inside ["self", "mode", "present"] (spInside a) := ok_Database_enter_inside T
  refine T.Database_enter.okX sc_Database_enter (fun vs H Q E h => ?_) (fun cdv A outer s H vs Q E hr h => ?_)
  · obtain ⟨L, D, v, rfl, _⟩ := h
    rfl
  · obtain ⟨L, D, v, rfl, tm, hD, hm, k⟩ := h
    have c1 := T.k_Database
    have n1 := T.na_Database_stack
    have h1 := hD.db
    have h2 := hD.s
    refine ⟨_, (pss_cons (ps_if (pt_not (pt_val (pe_smeth (pe_glob (v := .ref a.Mode) (by rfl) T.g_Mode rfl) T.r_Mode T.s_Mode_is_mode G_Mode_is_mode (hr.mono (by decide)) T.Mode_is_mode.kp T.b_Mode_is_mode .nil pass0 (pa_cons (pv 1) pa_nil)))) (pss_one (ps_raise rfl (takes_of rfl rfl rfl rfl) (pmk_err T.e_BadMode T.g_BadMode T.n_super hr (pa_cons (pv 1) pa_nil)))) pss_nil)
  (pss_one (ps_if (pt_cmpR op_isN (pe_ix ix_list (pe_fld (pv 0) rfl) (pe_un un_neg pe_int) (fun _ _ => rfl)) pe_non (nomark _)) (pss_one (ps_expr (pe_meth (pv 0) T.k_Database T.m_Database_enter_alone G_Database_enter_alone (hr.mono (by decide)) T.b_Database_enter_alone .nil (passes_call (takes_of rfl rfl rfl rfl) (fun _ _ _ _ h => h)) (pa_cons (pv 1) pa_nil)))) (pss_one (ps_expr (pe_meth (pv 0) T.k_Database T.m_Database_enter_inside G_Database_enter_inside (hr.mono (by decide)) T.b_Database_enter_inside .nil (passes_call (takes_of rfl rfl rfl rfl) (fun _ _ _ _ h => h)) (pa_cons (pv 1) (pa_cons (pe_ix ix_list (pe_fld (pv 0) rfl) (pe_un un_neg pe_int) (fun _ _ => rfl)) pa_nil)))))))), ?_⟩
    dsimp only [cxOf]
    walk_at "rd"
    unfold enterV at k
    cases bm : modeB v with
    | false =>
      rw [bm] at k
      refine iteT ?_
      walk_at "rd"
      exact k H L hD Fr.refl
    | true =>
      rw [bm] at k
      refine iteF ?_
      obtain ⟨m, rfl⟩ : ∃ m, v = .str m := by
        cases v <;> first | exact ⟨_, rfl⟩ | cases bm
      dsimp only [if_true] at k
      rw [if_pos rfl] at k
      unfold enterD at k
      rcases hD.top with ⟨ts, st, et, es⟩ | ⟨t, ts, x, st, y, rs, et, es, ex, h4, h5⟩
      · rw [es] at k
        rw [et] at h2
        have e1 := rv_at (f := tV) (x := none) (l := ts)
        walk_at "rd"
        exact ⟨L, D, m, rfl, hD, hm, k⟩
      · obtain ⟨n, rs0⟩ := x
        dsimp only at ex
        subst ex
        rw [es] at k
        rw [et] at h2
        have e1 := rv_at (f := tV) (x := some t) (l := ts)
        walk_at "rd"
        exact ⟨L, D, m, t, ts, n, y, rs, st, rfl, hD, hm, et, es, k⟩
theorem enterV_mode {D : Db} {m : Str} (h : m ∈ modesS) : enterV D (.str m) = enterD D m := by
  unfold enterV
  rw [if_pos (mode_isB h)]
/-! ### doom -/
theorem bd_doom (T : Txt K mg a d) : Binds K d.Database_doom ["self", "first"] [] := by
  obtain ⟨ds, h1, h2⟩ := T.Database_doom.binds1 (ps := ["self", "first"]) 2 1 (by simp) rfl fun T kV doc pm an cdv ct us its hu hi => match us, hu, its, hi with | [_, _], _, [_], _ => ⟨_, rfl, rfl⟩
  cases h1
  exact h2
def doomD (D : Db) (z : Str) : Db := match D.stack with
  | some ⟨n, none :: rs⟩ :: st => { D with stack := some ⟨n, some z :: rs⟩ :: st }
  | _ => D
def doomV (D : Db) (v : V) : Db × Option EK := if wordB v = true then (match v with
  | .str z => (doomD D z, none)
  | _ => (D, none)) else (D, some (.badword v))
theorem IsWord.asc {w : Str} (h : IsWord w) : asc w := fun c hc => by
  have := h.al c hc
  omega
theorem word_thing {H : Hp} {w : Str} (h : IsWord w) : Thing H (.str w) := .str w (by rw [← len_toList]; have := h.hi; omega) h.asc
theorem doomV_word {D : Db} {z : Str} (h : IsWord z) : doomV D (.str z) = (doomD D z, none) := by
  unfold doomV
  rw [if_pos (show wordB (.str z) = true from h.ok)]
def spDoom (a : Ad) : Sp := fun vs H Q E => ∃ L D v, vs = [.ref L.db, v] ∧ Thing H v ∧ DB a H L D ∧ outE a (doomV D v) H L Q E
theorem ok_Database_doom (T : Txt K mg a d) : FnOk P w K mg base (L2.CX P w) 2 a.Database_doom d.Database_doom ["self", "first"] (spDoom a) := by
  have G_is_word : FnOk P w K mg base CX0 1 a.is_word d.is_word ["thing"] spIsWord := ok_is_word T
  refine T.Database_doom.ok sc_Database_doom (fun vs H Q E h => ?_) (fun cdv A outer s H vs Q E hr h => ?_)
  · obtain ⟨L, D, v, rfl, _⟩ := h
    rfl
  · obtain ⟨L, D, v, rfl, tz, hD, k⟩ := h
    have c1 := T.k_Database
    have c2 := T.k_Transaction
    have n1 := T.na_Database_stack
    have n3 := T.na_Transaction_reasons
    have h1 := hD.db
    have h2 := hD.s
    refine ⟨_, (pss_cons (ps_if (pt_not (pt_val (pe_call G_is_word (hr.mono (by decide)) (by rfl) T.g_is_word T.is_word.kp T.b_is_word .nil pass0 (pa_cons (pv 1) pa_nil)))) (pss_one (ps_raise rfl (takes_of rfl rfl rfl rfl) (pmk_err T.e_BadWord T.g_BadWord T.n_super hr (pa_cons (pv 1) pa_nil)))) pss_nil)
  (pss_cons (ps_set (i := 2) sc_Database_doom.nd rfl (Or.inl rfl) (pe_ix ix_list (pe_fld (pv 0) rfl) (pe_un un_neg pe_int) (fun _ _ => rfl)))
  (pss_one (ps_if (PW.pt (pw_and (pt_cmpR op_notN (pv 2) pe_non (nomark _)) (pw_and1 (pt_cmpR op_isN (pe_ix ix_list (pe_fld (pv 2) rfl) (pe_un un_neg pe_int) (fun _ _ => rfl)) pe_non (nomark _))))) (pss_one (ps_asg (pv 1) (pg_sub (pe_fld (pv 2) rfl) (pe_un un_neg pe_int) set_list))) pss_nil)))), ?_⟩
    dsimp only [cxOf]
    walk_at "rd"
    unfold doomV at k
    cases bz : wordB v with
    | false =>
      rw [bz] at k
      refine iteT ?_
      walk_at "rd"
      exact k H L hD Fr.refl
    | true =>
      rw [bz, if_pos rfl] at k
      refine iteF ?_
      obtain ⟨z, rfl⟩ : ∃ z, v = .str z := by
        cases v <;> first | exact ⟨_, rfl⟩ | cases bz
      unfold doomD at k
      dsimp only at k
      rcases hD.top with ⟨ts, st, et, es⟩ | ⟨t, ts, x, st, y, rs, et, es, ex, h4, h5⟩
      · rw [es] at k
        rw [et] at h2
        have e1 := rv_at (f := tV) (x := none) (l := ts)
        walk_at "rd"
        exact k H L hD Fr.refl
      · obtain ⟨n, rs0⟩ := x
        dsimp only at ex
        subst ex
        rw [es] at k
        rw [et] at h2
        have e1 := rv_at (f := tV) (x := some t) (l := ts)
        have e2 := rv_at (f := oV) (x := y) (l := rs)
        have e3 := rv_ix (f := oV) (x := y) (l := rs)
        have mt : some t ∈ L.ts := by rw [et]; exact List.mem_cons_self
        cases y with
        | some y =>
          walk_at "rd"
          exact k H L hD Fr.refl
        | none =>
          walk_at "rd"
          have hD2 := hD.setQ (rs := some z :: rs) et es (by simp)
          have f2 := Fr.set (H := H) (o := .lst (rv oV (some z :: rs))) (DbAt.mutQ mt)
          have z2 := k _ _ hD2 f2
          rw [← rv_set (x := none)] at z2
          exact z2
/-! ### the end of a level, of a transaction -/
def endE (err y : Option Str) (c : Bool) : Option EK := match err, y, c with
  | none, some z, _ => some (.doomed z)
  | none, none, false => some .refused
  | _, _, _ => none
def endLRow (n top : Int) (ok : Bool) (x : Row) : Row := if x.fate = "open" ∧ x.holder = n ∧ x.level = top then (if ok = true then { x with level := top - 1 } else { x with fate := "undone" }) else x
def endTRow (n : Int) (fate : Str) (x : Row) : Row := if x.fate = "open" ∧ x.holder = n then { x with fate := fate } else x
theorem cur_at {α : Type} {f : α → α} {l : List α} {i : Nat} (hi : i ≤ l.length) : ((l.take i).map f ++ l.drop i)[i]? = l[i]? := by
  rw [List.getElem?_append_right (by rw [List.length_map, List.length_take]; omega), List.length_map, List.length_take, Nat.min_eq_left hi, Nat.sub_self, List.getElem?_drop]; rfl
theorem cur_step {α : Type} {f : α → α} {l : List α} {i : Nat} {x : α} (h : l[i]? = some x) : ((l.take i).map f ++ l.drop i).set i (f x) = (l.take (i + 1)).map f ++ l.drop (i + 1) := by
  have hi : i < l.length := (List.getElem?_eq_some_iff.mp h).1
  have e1 : ((l.take i).map f).length = i := by rw [List.length_map, List.length_take]; omega
  rw [List.set_append_right _ _ (by omega), e1, Nat.sub_self, List.take_add_one, h, List.map_append]
  have e2 : l.drop i = x :: l.drop (i + 1) := by
    rw [List.drop_eq_getElem_cons hi]
    congr 1
    exact (List.getElem?_eq_some_iff.mp h).2
  rw [e2]
  simp
theorem cur_same {α : Type} {f : α → α} {l : List α} {i : Nat} {x : α} (h : l[i]? = some x) (e : f x = x) : (l.take i).map f ++ l.drop i = (l.take (i + 1)).map f ++ l.drop (i + 1) := by
  rw [← cur_step h, e]
  have hi : i < l.length := (List.getElem?_eq_some_iff.mp h).1
  have := cur_at (f := f) (Nat.le_of_lt hi)
  rw [h] at this
  obtain ⟨h1, h2⟩ := List.getElem?_eq_some_iff.mp this
  rw [← h2, List.set_getElem_self]
theorem map_ref {ws : List (Addr × Addr)} {i : Nat} {v : V} (h : (ws.map fun w => V.ref w.1)[i]? = some v) : ∃ w, ws[i]? = some w ∧ v = .ref w.1 := by
  rw [List.getElem?_map] at h
  cases e : ws[i]? with
  | none => rw [e] at h; cases h
  | some w =>
    rw [e] at h
    cases h
    exact ⟨w, rfl, rfl⟩
def endLD (D : Db) (err : Option Str) : Db × Option EK := match D.stack with
  | some ⟨n, y :: rs⟩ :: st => ({ D with stack := some ⟨n, rs⟩ :: st, rows := D.rows.map (endLRow n rs.length (err.isNone && y.isNone)) }, endE err y true)
  | _ => (D, none)
def spEndL (a : Ad) : Sp := fun vs H Q E => ∃ L D err n y z rs st, vs = [.ref L.db, oV err] ∧ DB a H L D ∧ Sm D ∧ D.stack = some ⟨n, y :: z :: rs⟩ :: st ∧ outE a (endLD D err) H L Q E
theorem ok_Database_end_level (T : Txt K mg a d) : FnOk P w K mg base (L2.CX P w) 1 a.Database_end_level d.Database_end_level ["self", "error"] (spEndL a) := by
  refine T.Database_end_level.okX sc_Database_end_level (fun vs H Q E h => ?_) (fun cdv A outer s H vs Q E hr h => ?_)
  · obtain ⟨L, D, err, n, y, z, rs, st, rfl, _⟩ := h
    rfl
  · obtain ⟨L, D, err, n, y, z, rs, st, rfl, hD, hm, es, k⟩ := h
    have c1 := T.k_Database
    have c2 := T.k_Transaction
    have c3 := T.k_Write
    have n1 := T.na_Database_stack
    have n2 := T.na_Database_rows
    have n3 := T.na_Transaction_reasons
    have n4 := T.na_Transaction_number
    have n5 := T.na_Write_fate
    have n6 := T.na_Write_holder
    have n7 := T.na_Write_level
    have h1 := hD.db
    have h2 := hD.s
    unfold endLD at k
    rw [es] at k
    dsimp only at k
    rcases hD.top with ⟨ts, st', et, es'⟩ | ⟨t, ts, x, st', y', rs', et, es', ex, h4, h5⟩
    · rw [es] at es'
      cases es'
    · rw [es] at es'
      cases es'
      cases ex
      rw [et] at h2
      have e1 := rv_at (f := tV) (x := some t) (l := ts)
      have e2 := rv_pop (f := oV) (x := y) (l := z :: rs)
      have mt : some t ∈ L.ts := by rw [et]; exact List.mem_cons_self
      have hD2 := hD.setQ (rs := z :: rs) et es (by simp)
      have f2 := Fr.set (H := H) (o := .lst (rv oV (z :: rs))) (DbAt.mutQ mt)
      obtain ⟨g3, g4, _⟩ : TxAt a.Transaction _ (some t) (some ⟨n, z :: rs⟩) := by
        have hx := hD2.txs
        rw [et] at hx
        cases hx
        assumption
      have g1 := hD2.db
      dsimp only at g1 g3 g4
      rw [← rv_drop (f := oV) (x := y) (l := z :: rs)] at hD2 f2 g1 g3 g4
      replace k := k.fr f2
      refine ⟨_, (pss_cons (ps_set (i := 2) sc_Database_end_level.nd rfl (Or.inl rfl) (pe_ix ix_list (pe_fld (pv 0) rfl) (pe_un un_neg pe_int) (fun _ _ => rfl)))
  (pss_cons (ps_set (i := 3) sc_Database_end_level.nd rfl (Or.inl rfl) (pe_bm0 PySem.F.plainAttrs_list PySem.F.slot_list_pop PySem.F.type_list_pop mt_pop (pe_fld (pv 2) rfl)))
  (pss_cons (ps_set (i := 4) sc_Database_end_level.nd rfl (Or.inl rfl) (pe_callB call_len_seq (by rfl) T.n_len PySem.boot_len (pa_cons (pe_fld (pv 2) rfl) pa_nil)))
  (pss_cons (ps_for (passes_of rfl) rfl (pi_list (pe_fld (pv 0) rfl)) (pg_name (i := 5) sc_Database_end_level.nd rfl (Or.inl rfl))
  (pss_one (ps_if (PW.pt (pw_and (pt_cmpR op_eq (pe_fld (pv 5) rfl) pe_str (nomark _)) (pw_and (pt_cmpR op_eq (pe_fld (pv 5) rfl) (pe_fld (pv 2) rfl) (nomark _)) (pw_and1 (pt_cmpR op_eq (pe_fld (pv 5) rfl) (pv 4) (nomark _)))))) (pss_one (ps_if (PW.pt (pw_and (pt_cmpR op_isN (pv 1) pe_non (nomark _)) (pw_and1 (pt_cmpR op_isN (pv 3) pe_non (nomark _))))) (pss_one (ps_fld (pv 5) (pe_op op_sub (pv 4) pe_int) rfl)) (pss_one (ps_fld (pv 5) pe_str rfl)))) pss_nil)))
  (pss_one (ps_if (PW.pt (pw_and (pt_cmpR op_isN (pv 1) pe_non (nomark _)) (pw_and1 (pt_cmpR op_notN (pv 3) pe_non (nomark _))))) (pss_one (ps_raise rfl (takes_of rfl rfl rfl rfl) (pmk_err T.e_Doomed T.g_Doomed T.n_super hr (pa_cons (pv 3) pa_nil)))) pss_nil)))))), ?_⟩
      dsimp only [cxOf]
      walk_at "rd"
      generalize upd H t.q (.lst (rv oV (y :: z :: rs)).dropLast) = H1 at hD2 f2 g1 g3 g4 k ⊢
      have ltop : (((rv oV (y :: z :: rs)).dropLast.length : Nat) : Int) = ((z :: rs).length : Int) := by rw [rv_drop, rv_len]
      rw [ltop]
      refine ⟨⟨_, SqL.of hD2.r⟩, ?_⟩
      refine for_list (xs := L.ws.map fun w => V.ref w.1) (fun i σ H' => ∃ v5, DB a H' L { D with stack := some ⟨n, z :: rs⟩ :: st, rows := (D.rows.take i).map (endLRow n ((z :: rs).length : Int) (err.isNone && y.isNone)) ++ D.rows.drop i } ∧ Fr H1 H' L L ∧ σ = [some (.ref L.db), some (oV err), some (.ref t.t), some (oV y), some (.int ((z :: rs).length : Int)), v5]) ?_ ?_ ?_ ?_
      · exact ⟨none, hD2, Fr.refl, rfl⟩
      · rintro i σ H' _ ⟨v5, hI, _, rfl⟩
        exact SqL.of hI.r
      · rintro i v σ H' hv ⟨v5, hI, fI, rfl⟩
        obtain ⟨w, hw, rfl⟩ := map_ref hv
        have hlw : L.ws.length = D.rows.length := hD.rows.len
        have hi : i < D.rows.length := by rw [← hlw]; exact (List.getElem?_eq_some_iff.mp hw).1
        obtain ⟨x, hx, hxw⟩ := hI.rows.get hw
        dsimp only at hx
        rw [cur_at (Nat.le_of_lt hi)] at hx
        have hxw : H' w.1 = some (.ins a.Write w.2 (rwF x)) := hxw
        have mw : Mut L w.1 := DbAt.mutW (List.mem_of_getElem? hw)
        obtain ⟨j3, j4, _⟩ : TxAt a.Transaction H' (some t) (some ⟨n, z :: rs⟩) := by
          have hx := hI.txs
          rw [et] at hx
          cases hx
          assumption
        dsimp only at j3 j4
        have fin1 : endLRow n ((z :: rs).length : Int) (err.isNone && y.isNone) x = x → DB a H' L { D with stack := some ⟨n, z :: rs⟩ :: st, rows := (D.rows.take (i + 1)).map (endLRow n ((z :: rs).length : Int) (err.isNone && y.isNone)) ++ D.rows.drop (i + 1) } := fun e => by
          rw [← cur_same hx e]; exact hI
        have fin2 : DB a (upd H' w.1 (.ins a.Write w.2 (rwF (endLRow n ((z :: rs).length : Int) (err.isNone && y.isNone) x)))) L { D with stack := some ⟨n, z :: rs⟩ :: st, rows := (D.rows.take (i + 1)).map (endLRow n ((z :: rs).length : Int) (err.isNone && y.isNone)) ++ D.rows.drop (i + 1) } := by
          rw [← cur_step hx]; exact hI.setRow hw
        walk_at "rd"
        refine ite2 (fun b1 => ?_) (fun b1 => ?_)
        · have q1 : x.fate = "open" := V.str.inj (of_decide_eq_true b1)
          walk_at "rd"
          refine ite2 (fun b2 => ?_) (fun b2 => ?_)
          · have q2 : x.holder = n := V.int.inj (of_decide_eq_true b2)
            walk_at "rd"
            refine ite2 (fun b3 => ?_) (fun b3 => ?_)
            · have q3 : x.level = ((z :: rs).length : Int) := V.int.inj (of_decide_eq_true b3)
              have er : endLRow n ((z :: rs).length : Int) (err.isNone && y.isNone) x = if (err.isNone && y.isNone) = true then { x with level := ((z :: rs).length : Int) - 1 } else { x with fate := "undone" } := if_pos ⟨q1, q2, q3⟩
              rw [er] at fin2
              cases err with
              | some e =>
                walk_at "rd"
                exact ⟨_, fin2, fI.trans (Fr.set mw), rfl⟩
              | none =>
                cases y with
                | some y =>
                  walk_at "rd"
                  exact ⟨_, fin2, fI.trans (Fr.set mw), rfl⟩
                | none =>
                  walk_at "rd"
                  exact ⟨_, fin2, fI.trans (Fr.set mw), rfl⟩
            · have q3 : ¬ x.level = ((z :: rs).length : Int) := fun e => b3 (decide_eq_true (congrArg V.int e))
              exact ⟨_, fin1 (if_neg fun c => q3 c.2.2), fI, rfl⟩
          · have q2 : ¬ x.holder = n := fun e => b2 (decide_eq_true (congrArg V.int e))
            exact ⟨_, fin1 (if_neg fun c => q2 c.2.1), fI, rfl⟩
        · have q1 : ¬ x.fate = "open" := fun e => b1 (decide_eq_true (congrArg V.str e))
          exact ⟨_, fin1 (if_neg fun c => q1 c.1), fI, rfl⟩
      · rintro σ H' ⟨v5, hI, fI, rfl⟩
        have hlw : L.ws.length = D.rows.length := hD.rows.len
        rw [List.length_map, hlw, List.take_length, List.drop_length, List.append_nil] at hI
        have k0 := k _ _ hI fI
        cases err with
        | some e =>
          walk_at "rd"
          cases y <;> exact k0
        | none =>
          cases y with
          | none =>
            walk_at "rd"
            exact k0
          | some y =>
            walk_at "rd"
            exact k0
def endTD (D : Db) (err : Option Str) (c : Bool) : Db × Option EK := match D.stack with
  | some ⟨n, y :: _⟩ :: st => ({ D with stack := st, rows := D.rows.map (endTRow n (if (err.isNone && y.isNone && c) = true then "kept" else "undone")) }, endE err y c)
  | _ => (D, none)
def spEndT (a : Ad) : Sp := fun vs H Q E => ∃ L D err c n y rs st, vs = [.ref L.db, oV err, .bl c] ∧ DB a H L D ∧ Sm D ∧ D.stack = some ⟨n, y :: rs⟩ :: st ∧ st ≠ [] ∧ outE a (endTD D err c) H L Q E
theorem ok_Database_end_transaction (T : Txt K mg a d) : FnOk P w K mg base (L2.CX P w) 1 a.Database_end_transaction d.Database_end_transaction ["self", "error", "commits"] (spEndT a) := by
  refine T.Database_end_transaction.okX sc_Database_end_transaction (fun vs H Q E h => ?_) (fun cdv A outer s H vs Q E hr h => ?_)
  · obtain ⟨L, D, err, c, n, y, rs, st, rfl, _⟩ := h
    rfl
  · obtain ⟨L, D, err, c, n, y, rs, st, rfl, hD, hm, es, hst, k⟩ := h
    have c1 := T.k_Database
    have c2 := T.k_Transaction
    have c3 := T.k_Write
    have n1 := T.na_Database_stack
    have n2 := T.na_Database_rows
    have n3 := T.na_Transaction_reasons
    have n4 := T.na_Transaction_number
    have n5 := T.na_Write_fate
    have n6 := T.na_Write_holder
    have h1 := hD.db
    have h2 := hD.s
    unfold endTD at k
    rw [es] at k
    dsimp only at k
    rcases hD.top with ⟨ts, st', et, es'⟩ | ⟨t, ts, x, st', y', rs', et, es', ex, h4, h5⟩
    · rw [es] at es'
      cases es'
    · rw [es] at es'
      cases es'
      cases ex
      rw [et] at h2
      have e1 := rv_pop (f := tV) (x := some t) (l := ts)
      have e2 := rv_at (f := oV) (x := y) (l := rs)
      have mt : some t ∈ L.ts := by rw [et]; exact List.mem_cons_self
      have hD2 := hD.popS et es hst
      have f2 := Fr.popS (H := H) (o := .lst (rv tV ts)) et
      have g1 := hD2.db
      have g3 := upd_oth (o := .lst (rv tV ts)) (ins_ne h4 hD.s) h4
      have g4 := upd_oth (o := .lst (rv tV ts)) ((hD.qn t mt).2.1) h5
      dsimp only at g1 g3 g4
      rw [← rv_drop (f := tV) (x := some t) (l := ts)] at hD2 f2 g1 g3 g4
      replace k := k.fr f2
      have ntw : ∀ w ∈ L.ws, t.t ≠ w.1 := fun w hw => by
        obtain ⟨x, hx⟩ := hD.row hw
        exact row_ne_tx hD hx mt
      refine ⟨_, (pss_cons (ps_set (i := 3) sc_Database_end_transaction.nd rfl (Or.inl rfl) (pe_bm0 PySem.F.plainAttrs_list PySem.F.slot_list_pop PySem.F.type_list_pop mt_pop (pe_fld (pv 0) rfl)))
  (pss_cons (ps_set (i := 4) sc_Database_end_transaction.nd rfl (Or.inl rfl) (pe_ix ix_list (pe_fld (pv 3) rfl) (pe_un un_neg pe_int) (fun _ _ => rfl)))
  (pss_cons (ps_set (i := 5) sc_Database_end_transaction.nd rfl (Or.inl rfl) (pe_ifExp (PW.pt (pw_and (pt_cmpR op_isN (pv 1) pe_non (nomark _)) (pw_and (pt_cmpR op_isN (pv 4) pe_non (nomark _)) (pw_and1 (pt_val (pv 2)))))) pe_str pe_str))
  (pss_cons (ps_for (passes_of rfl) rfl (pi_list (pe_fld (pv 0) rfl)) (pg_name (i := 6) sc_Database_end_transaction.nd rfl (Or.inl rfl))
  (pss_one (ps_if (PW.pt (pw_and (pt_cmpR op_eq (pe_fld (pv 6) rfl) pe_str (nomark _)) (pw_and1 (pt_cmpR op_eq (pe_fld (pv 6) rfl) (pe_fld (pv 3) rfl) (nomark _))))) (pss_one (ps_fld (pv 6) (pv 5) rfl)) pss_nil)))
  (pss_cons (ps_if (PW.pt (pw_and (pt_cmpR op_isN (pv 1) pe_non (nomark _)) (pw_and1 (pt_cmpR op_notN (pv 4) pe_non (nomark _))))) (pss_one (ps_raise rfl (takes_of rfl rfl rfl rfl) (pmk_err T.e_Doomed T.g_Doomed T.n_super hr (pa_cons (pv 4) pa_nil)))) pss_nil)
  (pss_one (ps_if (PW.pt (pw_and (pt_cmpR op_isN (pv 1) pe_non (nomark _)) (pw_and1 (pt_not (pt_val (pv 2)))))) (pss_one (ps_raise rfl (takes_of rfl rfl rfl rfl) (pmk_err0 T.e_Refused T.g_Refused T.n_super hr))) pss_nil))))))), ?_⟩
      dsimp only [cxOf]
      walk_at "rd"
      generalize upd H L.s (.lst (rv tV (some t :: ts)).dropLast) = H1 at hD2 f2 g1 g3 g4 k ⊢
      have hlw : L.ws.length = D.rows.length := hD.rows.len
      cases err with
      | some e =>
        walk_at "rd"
        refine ⟨⟨_, SqL.of hD2.r⟩, ?_⟩
        refine for_list (xs := L.ws.map fun w => V.ref w.1) (fun i σ H' => ∃ v6, DB a H' { L with ts := ts } { D with stack := st, rows := (D.rows.take i).map (endTRow n "undone") ++ D.rows.drop i } ∧ Fr H1 H' { L with ts := ts } { L with ts := ts } ∧ H' t.t = some (.ins a.Transaction t.dt (txF n t.q)) ∧ σ = [some (.ref L.db), some (oV (some e)), some (.bl c), some (.ref t.t), some (oV y), some (.str "undone"), v6]) ?_ ?_ ?_ ?_
        · exact ⟨none, hD2, Fr.refl, g3, rfl⟩
        · rintro i σ H' _ ⟨v6, hI, _, _, rfl⟩
          exact SqL.of hI.r
        · rintro i v σ H' hv ⟨v6, hI, fI, j3, rfl⟩
          obtain ⟨w, hw, rfl⟩ := map_ref hv
          have hi : i < D.rows.length := by rw [← hlw]; exact (List.getElem?_eq_some_iff.mp hw).1
          obtain ⟨x, hx, hxw⟩ := hI.rows.get hw
          dsimp only at hx
          rw [cur_at (Nat.le_of_lt hi)] at hx
          have hxw : H' w.1 = some (.ins a.Write w.2 (rwF x)) := hxw
          have wm := List.mem_of_getElem? hw
          have mw : Mut { L with ts := ts } w.1 := DbAt.mutW (L := { L with ts := ts }) wm
          have fin1 : endTRow n "undone" x = x → DB a H' { L with ts := ts } { D with stack := st, rows := (D.rows.take (i + 1)).map (endTRow n "undone") ++ D.rows.drop (i + 1) } := fun e => by
            rw [← cur_same hx e]; exact hI
          have fin2 : DB a (upd H' w.1 (.ins a.Write w.2 (rwF (endTRow n "undone" x)))) { L with ts := ts } { D with stack := st, rows := (D.rows.take (i + 1)).map (endTRow n "undone") ++ D.rows.drop (i + 1) } := by
            rw [← cur_step hx]; exact hI.setRow (L := { L with ts := ts }) hw
          walk_at "rd"
          refine ite2 (fun b1 => ?_) (fun b1 => ?_)
          · have q1 : x.fate = "open" := V.str.inj (of_decide_eq_true b1)
            walk_at "rd"
            refine ite2 (fun b2 => ?_) (fun b2 => ?_)
            · have q2 : x.holder = n := V.int.inj (of_decide_eq_true b2)
              have er : endTRow n "undone" x = { x with fate := "undone" } := if_pos ⟨q1, q2⟩
              rw [er] at fin2
              walk_at "rd"
              exact ⟨_, fin2, fI.trans (Fr.set mw), upd_oth (ntw w wm) j3, rfl⟩
            · have q2 : ¬ x.holder = n := fun e => b2 (decide_eq_true (congrArg V.int e))
              exact ⟨_, fin1 (if_neg fun c => q2 c.2), fI, j3, rfl⟩
          · have q1 : ¬ x.fate = "open" := fun e => b1 (decide_eq_true (congrArg V.str e))
            exact ⟨_, fin1 (if_neg fun c => q1 c.1), fI, j3, rfl⟩
        · rintro σ H' ⟨v6, hI, fI, j3, rfl⟩
          rw [List.length_map, hlw, List.take_length, List.drop_length, List.append_nil] at hI
          have k0 := k _ _ hI fI
          walk_at "rd"
          cases y <;> exact k0
      | none =>
        cases y with
        | some y =>
          walk_at "rd"
          refine ⟨⟨_, SqL.of hD2.r⟩, ?_⟩
          refine for_list (xs := L.ws.map fun w => V.ref w.1) (fun i σ H' => ∃ v6, DB a H' { L with ts := ts } { D with stack := st, rows := (D.rows.take i).map (endTRow n "undone") ++ D.rows.drop i } ∧ Fr H1 H' { L with ts := ts } { L with ts := ts } ∧ H' t.t = some (.ins a.Transaction t.dt (txF n t.q)) ∧ σ = [some (.ref L.db), some (oV none), some (.bl c), some (.ref t.t), some (oV (some y)), some (.str "undone"), v6]) ?_ ?_ ?_ ?_
          · exact ⟨none, hD2, Fr.refl, g3, rfl⟩
          · rintro i σ H' _ ⟨v6, hI, _, _, rfl⟩
            exact SqL.of hI.r
          · rintro i v σ H' hv ⟨v6, hI, fI, j3, rfl⟩
            obtain ⟨w, hw, rfl⟩ := map_ref hv
            have hi : i < D.rows.length := by rw [← hlw]; exact (List.getElem?_eq_some_iff.mp hw).1
            obtain ⟨x, hx, hxw⟩ := hI.rows.get hw
            dsimp only at hx
            rw [cur_at (Nat.le_of_lt hi)] at hx
            have hxw : H' w.1 = some (.ins a.Write w.2 (rwF x)) := hxw
            have wm := List.mem_of_getElem? hw
            have mw : Mut { L with ts := ts } w.1 := DbAt.mutW (L := { L with ts := ts }) wm
            have fin1 : endTRow n "undone" x = x → DB a H' { L with ts := ts } { D with stack := st, rows := (D.rows.take (i + 1)).map (endTRow n "undone") ++ D.rows.drop (i + 1) } := fun e => by
              rw [← cur_same hx e]; exact hI
            have fin2 : DB a (upd H' w.1 (.ins a.Write w.2 (rwF (endTRow n "undone" x)))) { L with ts := ts } { D with stack := st, rows := (D.rows.take (i + 1)).map (endTRow n "undone") ++ D.rows.drop (i + 1) } := by
              rw [← cur_step hx]; exact hI.setRow (L := { L with ts := ts }) hw
            walk_at "rd"
            refine ite2 (fun b1 => ?_) (fun b1 => ?_)
            · have q1 : x.fate = "open" := V.str.inj (of_decide_eq_true b1)
              walk_at "rd"
              refine ite2 (fun b2 => ?_) (fun b2 => ?_)
              · have q2 : x.holder = n := V.int.inj (of_decide_eq_true b2)
                have er : endTRow n "undone" x = { x with fate := "undone" } := if_pos ⟨q1, q2⟩
                rw [er] at fin2
                walk_at "rd"
                exact ⟨_, fin2, fI.trans (Fr.set mw), upd_oth (ntw w wm) j3, rfl⟩
              · have q2 : ¬ x.holder = n := fun e => b2 (decide_eq_true (congrArg V.int e))
                exact ⟨_, fin1 (if_neg fun c => q2 c.2), fI, j3, rfl⟩
            · have q1 : ¬ x.fate = "open" := fun e => b1 (decide_eq_true (congrArg V.str e))
              exact ⟨_, fin1 (if_neg fun c => q1 c.1), fI, j3, rfl⟩
          · rintro σ H' ⟨v6, hI, fI, j3, rfl⟩
            rw [List.length_map, hlw, List.take_length, List.drop_length, List.append_nil] at hI
            have k0 := k _ _ hI fI
            walk_at "rd"
            exact k0
        | none =>
          cases c with
          | true =>
            walk_at "rd"
            refine ⟨⟨_, SqL.of hD2.r⟩, ?_⟩
            refine for_list (xs := L.ws.map fun w => V.ref w.1) (fun i σ H' => ∃ v6, DB a H' { L with ts := ts } { D with stack := st, rows := (D.rows.take i).map (endTRow n "kept") ++ D.rows.drop i } ∧ Fr H1 H' { L with ts := ts } { L with ts := ts } ∧ H' t.t = some (.ins a.Transaction t.dt (txF n t.q)) ∧ σ = [some (.ref L.db), some (oV none), some (.bl true), some (.ref t.t), some (oV none), some (.str "kept"), v6]) ?_ ?_ ?_ ?_
            · exact ⟨none, hD2, Fr.refl, g3, rfl⟩
            · rintro i σ H' _ ⟨v6, hI, _, _, rfl⟩
              exact SqL.of hI.r
            · rintro i v σ H' hv ⟨v6, hI, fI, j3, rfl⟩
              obtain ⟨w, hw, rfl⟩ := map_ref hv
              have hi : i < D.rows.length := by rw [← hlw]; exact (List.getElem?_eq_some_iff.mp hw).1
              obtain ⟨x, hx, hxw⟩ := hI.rows.get hw
              dsimp only at hx
              rw [cur_at (Nat.le_of_lt hi)] at hx
              have hxw : H' w.1 = some (.ins a.Write w.2 (rwF x)) := hxw
              have wm := List.mem_of_getElem? hw
              have mw : Mut { L with ts := ts } w.1 := DbAt.mutW (L := { L with ts := ts }) wm
              have fin1 : endTRow n "kept" x = x → DB a H' { L with ts := ts } { D with stack := st, rows := (D.rows.take (i + 1)).map (endTRow n "kept") ++ D.rows.drop (i + 1) } := fun e => by
                rw [← cur_same hx e]; exact hI
              have fin2 : DB a (upd H' w.1 (.ins a.Write w.2 (rwF (endTRow n "kept" x)))) { L with ts := ts } { D with stack := st, rows := (D.rows.take (i + 1)).map (endTRow n "kept") ++ D.rows.drop (i + 1) } := by
                rw [← cur_step hx]; exact hI.setRow (L := { L with ts := ts }) hw
              walk_at "rd"
              refine ite2 (fun b1 => ?_) (fun b1 => ?_)
              · have q1 : x.fate = "open" := V.str.inj (of_decide_eq_true b1)
                walk_at "rd"
                refine ite2 (fun b2 => ?_) (fun b2 => ?_)
                · have q2 : x.holder = n := V.int.inj (of_decide_eq_true b2)
                  have er : endTRow n "kept" x = { x with fate := "kept" } := if_pos ⟨q1, q2⟩
                  rw [er] at fin2
                  walk_at "rd"
                  exact ⟨_, fin2, fI.trans (Fr.set mw), upd_oth (ntw w wm) j3, rfl⟩
                · have q2 : ¬ x.holder = n := fun e => b2 (decide_eq_true (congrArg V.int e))
                  exact ⟨_, fin1 (if_neg fun c => q2 c.2), fI, j3, rfl⟩
              · have q1 : ¬ x.fate = "open" := fun e => b1 (decide_eq_true (congrArg V.str e))
                exact ⟨_, fin1 (if_neg fun c => q1 c.1), fI, j3, rfl⟩
            · rintro σ H' ⟨v6, hI, fI, j3, rfl⟩
              rw [List.length_map, hlw, List.take_length, List.drop_length, List.append_nil] at hI
              have k0 := k _ _ hI fI
              walk_at "rd"
              exact k0
          | false =>
            walk_at "rd"
            refine ⟨⟨_, SqL.of hD2.r⟩, ?_⟩
            refine for_list (xs := L.ws.map fun w => V.ref w.1) (fun i σ H' => ∃ v6, DB a H' { L with ts := ts } { D with stack := st, rows := (D.rows.take i).map (endTRow n "undone") ++ D.rows.drop i } ∧ Fr H1 H' { L with ts := ts } { L with ts := ts } ∧ H' t.t = some (.ins a.Transaction t.dt (txF n t.q)) ∧ σ = [some (.ref L.db), some (oV none), some (.bl false), some (.ref t.t), some (oV none), some (.str "undone"), v6]) ?_ ?_ ?_ ?_
            · exact ⟨none, hD2, Fr.refl, g3, rfl⟩
            · rintro i σ H' _ ⟨v6, hI, _, _, rfl⟩
              exact SqL.of hI.r
            · rintro i v σ H' hv ⟨v6, hI, fI, j3, rfl⟩
              obtain ⟨w, hw, rfl⟩ := map_ref hv
              have hi : i < D.rows.length := by rw [← hlw]; exact (List.getElem?_eq_some_iff.mp hw).1
              obtain ⟨x, hx, hxw⟩ := hI.rows.get hw
              dsimp only at hx
              rw [cur_at (Nat.le_of_lt hi)] at hx
              have hxw : H' w.1 = some (.ins a.Write w.2 (rwF x)) := hxw
              have wm := List.mem_of_getElem? hw
              have mw : Mut { L with ts := ts } w.1 := DbAt.mutW (L := { L with ts := ts }) wm
              have fin1 : endTRow n "undone" x = x → DB a H' { L with ts := ts } { D with stack := st, rows := (D.rows.take (i + 1)).map (endTRow n "undone") ++ D.rows.drop (i + 1) } := fun e => by
                rw [← cur_same hx e]; exact hI
              have fin2 : DB a (upd H' w.1 (.ins a.Write w.2 (rwF (endTRow n "undone" x)))) { L with ts := ts } { D with stack := st, rows := (D.rows.take (i + 1)).map (endTRow n "undone") ++ D.rows.drop (i + 1) } := by
                rw [← cur_step hx]; exact hI.setRow (L := { L with ts := ts }) hw
              walk_at "rd"
              refine ite2 (fun b1 => ?_) (fun b1 => ?_)
              · have q1 : x.fate = "open" := V.str.inj (of_decide_eq_true b1)
                walk_at "rd"
                refine ite2 (fun b2 => ?_) (fun b2 => ?_)
                · have q2 : x.holder = n := V.int.inj (of_decide_eq_true b2)
                  have er : endTRow n "undone" x = { x with fate := "undone" } := if_pos ⟨q1, q2⟩
                  rw [er] at fin2
                  walk_at "rd"
                  exact ⟨_, fin2, fI.trans (Fr.set mw), upd_oth (ntw w wm) j3, rfl⟩
                · have q2 : ¬ x.holder = n := fun e => b2 (decide_eq_true (congrArg V.int e))
                  exact ⟨_, fin1 (if_neg fun c => q2 c.2), fI, j3, rfl⟩
              · have q1 : ¬ x.fate = "open" := fun e => b1 (decide_eq_true (congrArg V.str e))
                exact ⟨_, fin1 (if_neg fun c => q1 c.1), fI, j3, rfl⟩
            · rintro σ H' ⟨v6, hI, fI, j3, rfl⟩
              rw [List.length_map, hlw, List.take_length, List.drop_length, List.append_nil] at hI
              have k0 := k _ _ hI fI
              walk_at "rd"
              exact k0
/-! ### leave -/
theorem bd_leave0 (T : Txt K mg a d) : ∃ ds, Vals [V.non, .bl true] ds ∧ Binds K d.Database_leave ["self", "error", "commits"] ds :=
  T.Database_leave.binds (ps := ["self", "error", "commits"]) 1 0 (by simp) rfl (fun T D doc pm an cdv ct us its ks hu hi hk => match us, hu, its, hi, ks, hk with | [_], _, [_], _, [_], _ => ⟨_, rfl, _, _, _, _, _, _, rfl, rfl, rfl⟩) (by simp)
theorem bd_leave1 (T : Txt K mg a d) : ∃ ds, Vals [V.bl true] ds ∧ Binds K d.Database_leave ["self", "error", "commits"] ds :=
  T.Database_leave.binds (ps := ["self", "error", "commits"]) 2 1 (by simp) rfl (fun T D doc pm an cdv ct us its ks hu hi hk => match us, hu, its, hi, ks, hk with | [_, _], _, [_], _, [_], _ => ⟨_, rfl, _, _, _, _, _, _, rfl, rfl, rfl⟩) (by simp)
/-- the blocks and the transactions fit -/
inductive Wf : List Str → List (Option Tx) → Prop
  | nil : Wf [] [none]
  | plain {es st} (h : Wf es (none :: st)) : Wf ("plain" :: es) (none :: st)
  | base {es st n y} (h : Wf es st) : Wf ("base" :: es) (some ⟨n, [y]⟩ :: st)
  | level {es st n y z rs} (h : Wf es (some ⟨n, z :: rs⟩ :: st)) : Wf ("level" :: es) (some ⟨n, y :: z :: rs⟩ :: st)
  | joined {es st n y rs} (h : Wf es (some ⟨n, y :: rs⟩ :: st)) : Wf ("joined" :: es) (some ⟨n, y :: rs⟩ :: st)
  | outside {es st x} (h : Wf es (some x :: st)) : Wf ("outside" :: es) (none :: some x :: st)
theorem Wf.ne {es : List Str} {st : List (Option Tx)} (h : Wf es st) : st ≠ [] := by cases h <;> simp
def leaveW (D : Db) (err : Option Str) (c : Bool) : Db × Option EK := match D.entered with
  | [] => (D, some .noblock)
  | e :: es =>
    if e = "outside" then ({ D with entered := es, stack := D.stack.tail }, none) else
    if e = "joined" then ((match err with
      | some z => doomD { D with entered := es } z
      | none => { D with entered := es }), none) else
    if e = "level" then endLD { D with entered := es } err else
    if e = "base" then endTD { D with entered := es } err c else
    ({ D with entered := es }, none)
def leaveD (D : Db) (err : Option Str) (c : Bool) : Db × Option EK := if (D.entered.length : Int) ≤ D.floor then (D, some .noblock) else leaveW D err c
def leaveV (D : Db) (v : V) (c : Bool) : Db × Option EK := match v with
  | .non => leaveD D none c
  | .str z => if wordS z = true then leaveD D (some z) c else if (D.entered.length : Int) ≤ D.floor then (D, some .noblock) else (D, some (.badword v))
  | v => if (D.entered.length : Int) ≤ D.floor then (D, some .noblock) else (D, some (.badword v))
theorem leaveV_o {D : Db} {err : Option Str} {c : Bool} (h : ∀ z, err = some z → IsWord z) : leaveV D (oV err) c = leaveD D err c := by
  cases err with
  | none => rfl
  | some z =>
    show (if wordS z = true then _ else _) = _
    rw [if_pos (h z rfl).ok]
def spLeave (a : Ad) : Sp := fun vs H Q E => ∃ L D v c, vs = [.ref L.db, v, .bl c] ∧ Thing H v ∧ DB a H L D ∧ Sm D ∧ 0 ≤ D.floor ∧ Wf D.entered D.stack ∧ outE a (leaveV D v c) H L Q E
theorem ok_Database_leave (T : Txt K mg a d) : FnOk P w K mg base (L2.CX P w) 3 a.Database_leave d.Database_leave ["self", "error", "commits"] (spLeave a) := by
  have G_is_word : FnOk P w K mg base CX0 1 a.is_word d.is_word ["thing"] spIsWord := ok_is_word T
  have G_Database_doom : FnOk P w K mg base (L2.CX P w) 2 a.Database_doom d.Database_doom ["self", "first"] (spDoom a) := ok_Database_doom T
  have G_Database_end_level : FnOk P w K mg base (L2.CX P w) 1 a.Database_end_level d.Database_end_level ["self", "error"] (spEndL a) := ok_Database_end_level T
  have G_Database_end_transaction : FnOk P w K mg base (L2.CX P w) 1 a.Database_end_transaction d.Database_end_transaction ["self", "error", "commits"] (spEndT a) := ok_Database_end_transaction T
  refine T.Database_leave.ok sc_Database_leave (fun vs H Q E h => ?_) (fun cdv A outer s H vs Q E hr h => ?_)
  · obtain ⟨L, D, v, c, rfl, _⟩ := h
    rfl
  · obtain ⟨L, D, v, c, rfl, tv, hD, hm, hfl, hw, k⟩ := h
    have c1 := T.k_Database
    have n1 := T.na_Database_stack
    have n2 := T.na_Database_entered
    have n3 := T.na_Database_floor
    have h1 := hD.db
    have h2 := hD.s
    have h3 := hD.e
    refine ⟨_, (pss_cons (ps_if (pt_cmpR op_le (pe_callB call_len_seq (by rfl) T.n_len PySem.boot_len (pa_cons (pe_fld (pv 0) rfl) pa_nil)) (pe_fld (pv 0) rfl) (nomark _)) (pss_one (ps_raise rfl (takes_of rfl rfl rfl rfl) (pmk_err0 T.e_NoBlock T.g_NoBlock T.n_super hr))) pss_nil)
  (pss_cons (ps_if (PW.pt (pw_and (pt_cmpR op_notN (pv 1) pe_non (nomark _)) (pw_and1 (pt_not (pt_val (pe_call G_is_word (hr.mono (by decide)) (by rfl) T.g_is_word T.is_word.kp T.b_is_word .nil pass0 (pa_cons (pv 1) pa_nil))))))) (pss_one (ps_raise rfl (takes_of rfl rfl rfl rfl) (pmk_err T.e_BadWord T.g_BadWord T.n_super hr (pa_cons (pv 1) pa_nil)))) pss_nil)
  (pss_cons (ps_set (i := 3) sc_Database_leave.nd rfl (Or.inl rfl) (pe_bm0 PySem.F.plainAttrs_list PySem.F.slot_list_pop PySem.F.type_list_pop mt_pop (pe_fld (pv 0) rfl)))
  (pss_one (ps_if (pt_cmpR op_eq (pv 3) pe_str (nomark _)) (pss_one (ps_expr (pe_bm0 PySem.F.plainAttrs_list PySem.F.slot_list_pop PySem.F.type_list_pop mt_pop (pe_fld (pv 0) rfl)))) (pss_one (ps_if (PW.pt (pw_and (pt_cmpR op_eq (pv 3) pe_str (nomark _)) (pw_and1 (pt_cmpR op_notN (pv 1) pe_non (nomark _))))) (pss_one (ps_expr (pe_meth (pv 0) T.k_Database T.m_Database_doom G_Database_doom (hr.mono (by decide)) (bd_doom T) .nil (passes_call (takes_of rfl rfl rfl rfl) (fun _ _ _ _ h => h)) (pa_cons (pv 1) pa_nil)))) (pss_one (ps_if (pt_cmpR op_eq (pv 3) pe_str (nomark _)) (pss_one (ps_expr (pe_meth (pv 0) T.k_Database T.m_Database_end_level G_Database_end_level (hr.mono (by decide)) T.b_Database_end_level .nil (passes_call (takes_of rfl rfl rfl rfl) (fun _ _ _ _ h => h)) (pa_cons (pv 1) pa_nil)))) (pss_one (ps_if (pt_cmpR op_eq (pv 3) pe_str (nomark _)) (pss_one (ps_expr (pe_meth (pv 0) T.k_Database T.m_Database_end_transaction G_Database_end_transaction (hr.mono (by decide)) T.b_Database_end_transaction .nil (passes_call (takes_of rfl rfl rfl rfl) (fun _ _ _ _ h => h)) (pa_cons (pv 1) (pa_cons (pv 2) pa_nil))))) pss_nil))))))))))), ?_⟩
    dsimp only [cxOf]
    walk_at "rd"
    rw [rv_len]
    by_cases hfl2 : (D.entered.length : Int) ≤ D.floor
    · have k1 : outE a (D, some .noblock) H L Q E := by
        have e : leaveV D v c = (D, some .noblock) := by
          unfold leaveV leaveD
          repeat' split
          all_goals first | rfl | contradiction
        rw [e] at k
        exact k
      rw [decide_eq_true hfl2]
      refine iteT ?_
      walk_at "rd"
      exact k1 H L hD Fr.refl
    rw [decide_eq_false hfl2]
    refine iteF ?_
    have go : ∀ err : Option Str, (∀ z, err = some z → IsWord z) → v = oV err → outE a (leaveW D err c) H L Q E := fun err he hv => by
      subst hv
      rw [leaveV_o he] at k
      unfold leaveD at k
      rw [if_neg hfl2] at k
      exact k
    cases hent : D.entered with
    | nil =>
      rw [hent] at hfl2
      exact absurd hfl hfl2
    | cons e es =>
      rw [hent] at h3 hw
      have e2 := rv_pop (f := V.str) (x := e) (l := es)
      have hw2 := hw
      generalize est : D.stack = stk at hw2
      have hD2 := hD.setE es
      have f2 := Fr.set (H := H) (L := L) (o := .lst (rv V.str es)) DbAt.mutE
      have hm2 : Sm { D with entered := es } := ⟨by have := hm.e; rw [hent, List.length_cons] at this; exact Nat.le_of_succ_le this, hm.s, hm.r, hm.n⟩
      have g1 := hD2.db
      dsimp only at g1
      rw [← rv_drop (f := V.str) (x := e) (l := es)] at hD2 f2 g1
      have kk : ∀ err : Option Str, (∀ z, err = some z → IsWord z) → v = oV err → outE a (if e = "outside" then ({ D with entered := es, stack := D.stack.tail }, none) else if e = "joined" then ((match err with
          | some z => doomD { D with entered := es } z
          | none => { D with entered := es }), none) else if e = "level" then endLD { D with entered := es } err else if e = "base" then endTD { D with entered := es } err c else ({ D with entered := es }, none)) H L Q E := fun err he hv => by
        have := go err he hv
        unfold leaveW at this
        rw [hent] at this
        exact this
      cases hv0 : decide (v = .non) with
      | true =>
        cases (of_decide_eq_true hv0 : v = .non)
        have k0 := kk none (fun z e => nomatch e) rfl
        walk_at "rd"
        generalize upd H L.e (.lst (rv V.str (e :: es)).dropLast) = H2 at hD2 f2 g1 ⊢
        cases hw2 with
        | plain h =>
          walk_at "rd"
          have z := k0 _ _ hD2 f2
          exact z
        | outside h =>
          have et := hD2.top
          rcases et with ⟨ts, st', et, es'⟩ | ⟨t, ts, x, st', y', rs', et, es', ex, h4, h5⟩
          · dsimp only at es'
            rw [est] at es'
            cases es'
            have g2 := hD2.s
            rw [et] at g2
            have e3 := rv_pop (f := tV) (x := none) (l := ts)
            walk_at "rd"
            have hD3 := hD2.popS et est (by simp)
            have f3 := Fr.popS (H := H2) (o := .lst (rv tV ts)) et
            rw [← rv_drop (f := tV) (x := none) (l := ts)] at hD3 f3
            rw [est] at k0
            exact k0 _ _ hD3 (f2.trans f3)
          · dsimp only at es'
            rw [est] at es'
            cases es'
        | joined h =>
          walk_at "rd"
          have z := k0 _ _ hD2 f2
          exact z
        | level h =>
          walk_at "rd"
          exact ⟨L, { D with entered := es }, none, _, _, _, _, _, rfl, hD2, hm2, est, outE.fr k0 f2⟩
        | base h =>
          walk_at "rd"
          exact ⟨L, { D with entered := es }, none, c, _, _, _, _, rfl, hD2, hm2, est, h.ne, outE.fr k0 f2⟩
      | false =>
        have hnv : ¬ v = .non := of_decide_eq_false hv0
        walk_at "rd"
        rw [hv0]
        walk_at "rd"
        cases bz : wordB v with
        | false =>
          have k1 : outE a (D, some (.badword v)) H L Q E := by
            have e : leaveV D v c = (D, some (.badword v)) := by
              unfold leaveV
              split
              · exact absurd rfl hnv
              · rename_i z
                rw [if_neg (show ¬ wordS z = true from fun q => by rw [show wordB (.str z) = wordS z from rfl, q] at bz; cases bz), if_neg hfl2]
              · rw [if_neg hfl2]
            rw [e] at k
            exact k
          refine iteT ?_
          walk_at "rd"
          exact k1 H L hD Fr.refl
        | true =>
          refine iteF ?_
          obtain ⟨z, rfl⟩ : ∃ z, v = .str z := by
            cases v <;> first | exact ⟨_, rfl⟩ | cases bz
          have hz : IsWord z := wordS_of bz
          have k0 := kk (some z) (fun z' e => Option.some.inj e ▸ hz) rfl
          have tz := word_thing (H := upd H L.e (.lst (rv V.str (e :: es)).dropLast)) hz
          walk_at "rd"
          generalize upd H L.e (.lst (rv V.str (e :: es)).dropLast) = H2 at hD2 f2 g1 tz ⊢
          cases hw2 with
          | plain h =>
            walk_at "rd"
            have z := k0 _ _ hD2 f2
            exact z
          | outside h =>
            have et := hD2.top
            rcases et with ⟨ts, st', et, es'⟩ | ⟨t, ts, x, st', y', rs', et, es', ex, h4, h5⟩
            · dsimp only at es'
              rw [est] at es'
              cases es'
              have g2 := hD2.s
              rw [et] at g2
              have e3 := rv_pop (f := tV) (x := none) (l := ts)
              walk_at "rd"
              have hD3 := hD2.popS et est (by simp)
              have f3 := Fr.popS (H := H2) (o := .lst (rv tV ts)) et
              rw [← rv_drop (f := tV) (x := none) (l := ts)] at hD3 f3
              rw [est] at k0
              exact k0 _ _ hD3 (f2.trans f3)
            · dsimp only at es'
              rw [est] at es'
              cases es'
          | joined h =>
            walk_at "rd"
            refine ⟨L, { D with entered := es }, .str z, rfl, tz, hD2, ?_⟩
            rw [doomV_word hz]
            exact outE.fr k0 f2
          | level h =>
            walk_at "rd"
            exact ⟨L, { D with entered := es }, (some z), _, _, _, _, _, rfl, hD2, hm2, est, outE.fr k0 f2⟩
          | base h =>
            walk_at "rd"
            exact ⟨L, { D with entered := es }, (some z), c, _, _, _, _, rfl, hD2, hm2, est, h.ne, outE.fr k0 f2⟩
theorem cut_rv {α : Type} {f : α → V} {x : α} {l : List α} : cutV (rv f (x :: l)) none (some (-1)) = rv f l := by
  rw [rv_cons]
  show List.take (HT.sIx (rv f l ++ [f x]).length (rv f l ++ [f x]).length (some (-1)) - 0) (List.drop 0 (rv f l ++ [f x])) = rv f l
  rw [List.drop_zero, Nat.sub_zero]
  have e : HT.sIx (rv f l ++ [f x]).length (rv f l ++ [f x]).length (some (-1)) = (rv f l).length := by
    unfold HT.sIx
    rw [List.length_append, List.length_singleton]
    simp only
    rw [if_pos (by decide)]
    omega
  rw [e, List.take_left]
/-! ### held records -/
def spHeldBy (K : PySem.W.Frag) (a : Ad) : Sp := fun vs H Q _ => ∃ L D p ns, vs = [.ref L.db, .ref p] ∧ SqL K H p (ns.map V.int) ∧ DB a H L D ∧ Sm D ∧
  ∀ H' q, Same H H' → H' q = some (.lst ((sortT (heldL D.rows ns)).map V.str)) → H q = none → Q (.ref q) H'
theorem inV_ints {i : Int} {ns : List Int} : inV (.int i) (ns.map V.int) = decide (i ∈ ns) := by
  unfold inV
  rw [List.any_map]
  induction ns with
  | nil => rfl
  | cons n r ih =>
    rw [List.any_cons, ih]
    have e : eqV (V.int n) (V.int i) = decide (n = i) := by
      show (n == i) = decide (n = i)
      exact (by by_cases h : n = i <;> simp [h])
    show (eqV (V.int n) (V.int i) || decide (i ∈ r)) = _
    rw [e]
    by_cases h : n = i
    · subst h
      simp
    · have h' : ¬ i = n := fun z => h z.symm
      simp [h, h']
theorem ok_Database_held_by (T : Txt K mg a d) : FnOk P w K mg base CX0 1 a.Database_held_by d.Database_held_by ["self", "numbers"] (spHeldBy K a) := by
  refine T.Database_held_by.ok sc_Database_held_by (fun vs H Q E h => ?_) (fun cdv A outer s H vs Q E hr h => ?_)
  · obtain ⟨L, D, p, ns, rfl, _⟩ := h
    rfl
  · obtain ⟨L, D, p, ns, rfl, hp, hD, hm, k⟩ := h
    have c1 := T.k_Database
    have c3 := T.k_Write
    have n2 := T.na_Database_rows
    have n5 := T.na_Write_fate
    have n6 := T.na_Write_holder
    have n7 := T.na_Write_record
    have h1 := hD.db
    have h2 := hD.r
    refine ⟨_, (pss_one (ps_ret (pe_callB (cr_sortTS rfl) (by rfl) T.n_sorted (by decide +kernel) (pa_cons (pe_scT (own := [("row", 2)]) rfl sc_Database_held_by.nd (pi_list (pe_fld (pv 0) rfl)) (blkOk_by (own := [("row", 2)]) (N := ["self", "numbers", "row"]) (sc := defScope s_Database_held_by) (by decide +kernel)) (fun _ _ _ _ _ => (pg_name (i := 2) sc_Database_held_by.nd rfl (Or.inl rfl))) (fun _ _ _ _ _ => (pts_one (PW.pt (pw_and (pt_cmpR op_eq (pe_fldK (K := K) rfl (pv 2) rfl) pe_str (nomark _)) (pw_and1 (pt_cmpR (op_inK (K := K) rfl) (pe_fldK (K := K) rfl (pv 2) rfl) (pv 1) (by rfl))))))) (fun _ _ _ _ _ => (pe_fldK (K := K) rfl (pv 2) rfl))) pa_nil)))), ?_⟩
    dsimp only [cxOf]
    walk_at "rd"
    refine ⟨⟨_, SqL.of h2⟩, ?_⟩
    intro S hS
    have hlw : L.ws.length = D.rows.length := hD.rows.len
    refine sc_listT (xs := L.ws.map fun w => V.ref w.1) (fun i H' => Kp (fun b => b = S) H H' ∧ H' S = some (TSO w S (heldL (D.rows.take i) ns))) ?_ ?_ ?_ ?_
    · exact ⟨Kp.refl.fresh hS, upd_same⟩
    · rintro i H' _ ⟨kp, _⟩
      exact SqL.of (kp _ _ h2 (ne_of_none h2 hS))
    · rintro i v H' hv ⟨kp, hS'⟩
      obtain ⟨w', hw, rfl⟩ := map_ref hv
      obtain ⟨x, hx, hxw⟩ := hD.rows.get hw
      have hxw : H w'.1 = some (.ins a.Write w'.2 (rwF x)) := hxw
      have hx' := kp _ _ hxw (ne_of_none hxw hS)
      have hp' : SqL K H' p (ns.map V.int) := (Same.seq (Kp.same (Same.refl H) kp fun c e => e ▸ hS) hp)
      have hl : (heldL (D.rows.take i) ns).length + 1 < scanBound := by
        have h1 := held_len (rows := D.rows.take i) (ns := ns)
        have h2 := hm.n
        have h3 : (D.rows.take i).length ≤ D.rows.length := by rw [List.length_take]; omega
        have h4 : scanBound = 4096 := rfl
        omega
      rw [held_take (ns := ns) hx]
      walk_at "rd"
      refine ite2 (fun b1 => ?_) (fun b1 => ?_)
      · have q1 : x.fate = "open" := V.str.inj (of_decide_eq_true b1)
        walk_at "rd"
        refine ⟨?_, ?_⟩
        · rw [List.all_map]
          exact List.all_eq_true.mpr fun _ _ => rfl
        rw [show (if false = true then !inV (V.int x.holder) (ns.map V.int) else inV (V.int x.holder) (ns.map V.int)) = inV (V.int x.holder) (ns.map V.int) from rfl, inV_ints]
        by_cases b2 : x.holder ∈ ns
        · rw [decide_eq_true b2, show heldS ns (heldL (D.rows.take i) ns) x = addT x.rcd (heldL (D.rows.take i) ns) from if_pos ⟨q1, b2⟩]
          walk_at "rd"
          first
            | exact ⟨kp.set1, upd_same⟩
            | exact upd_same
        · rw [decide_eq_false b2, show heldS ns (heldL (D.rows.take i) ns) x = heldL (D.rows.take i) ns from if_neg fun c => b2 c.2]
          exact ⟨_, rfl, kp, hS'⟩
      · have q1 : ¬ x.fate = "open" := fun e => b1 (decide_eq_true (congrArg V.str e))
        rw [show heldS ns (heldL (D.rows.take i) ns) x = heldL (D.rows.take i) ns from if_neg fun c => q1 c.1]
        exact ⟨kp, hS'⟩
    · rintro H' ⟨kp, hS'⟩
      rw [List.length_map, hlw, List.take_length] at hS'
      have sm : Same H H' := Kp.same (Same.refl H) kp fun c e => e ▸ hS
      refine ⟨S, _, rfl, hS', fun q hq => k _ q (sm.new hq) upd_same (sm.free hq)⟩
/-- [one.number for one in ts if one is not None] -/
def numsR (st : List (Option Tx)) : List Int := (st.reverse.filterMap fun t => t.map (·.num))
def outerL (D : Db) : List Str := sortT (heldL D.rows (numsR D.stack.tail))
def ownL (D : Db) : List Str := sortT (heldL D.rows (numsR (D.stack.take 1)))
theorem nums_step {st : List (Option Tx)} {i : Nat} {t : Option Tx} (h : st.reverse[i]? = some t) : (st.reverse.take (i + 1)).filterMap (fun t => t.map (·.num)) = (st.reverse.take i).filterMap (fun t => t.map (·.num)) ++ (t.map (·.num)).toList := by
  rw [List.take_add_one, h, List.filterMap_append]
  cases t <;> rfl
theorem All2.rev {α β : Type} {R : α → β → Prop} {l : List α} {m : List β} (a : All2 R l m) : All2 R l.reverse m.reverse := by
  induction a with
  | nil => exact .nil
  | cons r _ ih => rw [List.reverse_cons, List.reverse_cons]; exact ih.snoc r
def spRecs (a : Ad) (f : Db → List Str) : Sp := fun vs H Q _ => ∃ L D, vs = [.ref L.db] ∧ DB a H L D ∧ Sm D ∧ ∀ H' q, Same H H' → H' q = some (.lst ((f D).map V.str)) → H q = none → Q (.ref q) H'
theorem ok_Database_outer_records (T : Txt K mg a d) : FnOk P w K mg base CX0 2 a.Database_outer_records d.Database_outer_records ["self"] (spRecs a outerL) := by
  have G_Database_held_by : FnOk P w K mg base CX0 1 a.Database_held_by d.Database_held_by ["self", "numbers"] (spHeldBy K a) := ok_Database_held_by T
  refine T.Database_outer_records.ok sc_Database_outer_records (fun vs H Q E h => ?_) (fun cdv A outer s H vs Q E hr h => ?_)
  · obtain ⟨L, D, rfl, _⟩ := h
    rfl
  · obtain ⟨L, D, rfl, hD, hm, k⟩ := h
    have c1 := T.k_Database
    have c2 := T.k_Transaction
    have n1 := T.na_Database_stack
    have n4 := T.na_Transaction_number
    have h1 := hD.db
    have h2 := hD.s
    obtain ⟨t0, ts, x0, st, et, es, a2⟩ : ∃ t0 ts x0 st, L.ts = t0 :: ts ∧ D.stack = x0 :: st ∧ All2 (TxAt a.Transaction H) ts st := by
      have hx := hD.txs
      have ne := hD.ne
      generalize L.ts = l at hx ⊢
      generalize D.stack = m at hx ne ⊢
      cases hx with
      | nil => exact absurd rfl ne
      | cons r t => exact ⟨_, _, _, _, rfl, rfl, t⟩
    have a3 := a2.rev
    have ol : outerL D = sortT (heldL D.rows (numsR st)) := by unfold outerL; rw [es]; rfl
    refine ⟨_, (pss_one (ps_ret (pe_meth (pv 0) T.k_Database T.m_Database_held_by G_Database_held_by (hr.mono (by decide)) T.b_Database_held_by .nil pass0 (pa_cons (pe_lc (own := [("one", 1)]) rfl sc_Database_outer_records.nd (pi_list (pe_slice sl_list (pe_fld (pv 0) rfl) po_none (po_some (pe_un un_neg pe_int)))) (blkOk_by (own := [("one", 1)]) (N := ["self", "one"]) (sc := defScope s_Database_outer_records) (by decide +kernel)) (fun _ _ _ _ _ => (pg_name (i := 1) sc_Database_outer_records.nd rfl (Or.inl rfl))) (fun _ _ _ _ _ => (pts_one (pt_cmpR op_notN (pv 1) pe_non (nomark _)))) (fun _ _ _ _ _ => (pe_fldK (K := K) rfl (pv 1) rfl))) pa_nil)))), ?_⟩
    dsimp only [cxOf]
    walk_at "rd"
    intro p1 f1
    rw [et, cut_rv]
    have s1 : Same H (upd H p1 (.lst (rv tV ts))) := (Same.refl H).new f1
    refine ⟨_, rfl, ⟨_, SqL.of upd_same⟩, ?_⟩
    intro S hS
    have s2 : Same H (upd (upd H p1 (.lst (rv tV ts))) S (.lst [])) := s1.new hS
    have nS : p1 ≠ S := ne_of_none upd_same hS
    refine lc_list (xs := rv tV ts) (fun i H' => Kp (fun b => b = S) (upd H p1 (.lst (rv tV ts))) H' ∧ H' S = some (.lst (((st.reverse.take i).filterMap fun t => t.map (·.num)).map V.int))) ?_ ?_ ?_ ?_
    · exact ⟨Kp.refl.fresh hS, upd_same⟩
    · rintro i H' _ ⟨kp, _⟩
      exact SqL.of (kp _ _ upd_same nS)
    · rintro i v H' hv ⟨kp, hS'⟩
      have hv' : ts.reverse.map tV = rv tV ts := by unfold rv; rw [List.map_reverse]
      rw [← hv', List.getElem?_map] at hv
      cases e : ts.reverse[i]? with
      | none => rw [e] at hv; cases hv
      | some t =>
        rw [e] at hv
        cases hv
        obtain ⟨x, hx, hxt⟩ := a3.get e
        have hst := nums_step hx
        cases t with
        | none =>
          cases x with
          | some x => exact hxt.elim
          | none =>
            walk_at "rd"
            try refine ⟨kp, ?_⟩
            rw [hst]
            simpa using hS'
        | some t =>
          cases x with
          | none => exact hxt.elim
          | some x =>
            obtain ⟨j1, _, _⟩ := hxt
            have hl : (((st.reverse.take i).filterMap fun t => t.map (·.num)).map V.int).length < sizeLine := by
              rw [List.length_map, sizeLine_eq]
              have h1 := List.length_filterMap_le (fun t : Option Tx => t.map (·.num)) (st.reverse.take i)
              have h2 := hm.s
              rw [es, List.length_cons] at h2
              rw [List.length_take, List.length_reverse] at h1
              omega
            have j2 := kp _ _ (s1 _ _ j1) (ne_of_none (s1 _ _ j1) hS)
            walk_at "rd"
            try refine ⟨kp.set1, ?_⟩
            rw [hst, List.map_append]
            exact upd_same
    · rintro H' ⟨kp, hS'⟩
      rw [rv_len, a2.len, ← List.length_reverse, List.take_length] at hS'
      have sm : Same H H' := Kp.same s1 kp fun c e => e ▸ s1.free hS
      have hx1 := sm _ _ h1
      walk_at "rd"
      exact ⟨L, D, S, numsR st, rfl, SqL.of hS', hD.keep (fun b u _ e => sm b u e), hm, fun H2 q s2 hq nq => k H2 q (sm.trans s2) (ol ▸ hq) (sm.free nq)⟩
theorem cut_last {α : Type} {f : α → V} {x : α} {l : List α} : cutV (rv f (x :: l)) (some (-1)) none = [f x] := by
  rw [rv_cons]
  show List.take (HT.sIx (rv f l ++ [f x]).length (rv f l ++ [f x]).length none - HT.sIx (rv f l ++ [f x]).length 0 (some (-1))) (List.drop (HT.sIx (rv f l ++ [f x]).length 0 (some (-1))) (rv f l ++ [f x])) = [f x]
  have e1 : HT.sIx (rv f l ++ [f x]).length 0 (some (-1)) = (rv f l).length := by
    unfold HT.sIx
    rw [List.length_append, List.length_singleton]
    simp only
    rw [if_pos (by decide)]
    omega
  have e2 : HT.sIx (rv f l ++ [f x]).length (rv f l ++ [f x]).length none = (rv f l).length + 1 := by
    unfold HT.sIx
    rw [List.length_append, List.length_singleton]
  rw [e1, e2, List.drop_left]
  simp
/-! ### writes -/
def spWrI (a : Ad) : Sp := fun vs H Q _ => ∃ (x dx : Addr) (r : Row), vs = [.ref x, .str r.rcd, r.val, .str r.fate, .int r.holder, .int r.level] ∧ H x = some (.ins a.Write dx []) ∧ Q .non (upd H x (.ins a.Write dx (rwF r)))
theorem upd_upd {H : Hp} {a : Addr} {o u : HO} : upd (upd H a o) a u = upd H a u := by
  funext b
  by_cases h : b = a
  · subst h
    rw [upd_same, upd_same]
  · rw [upd_ne h, upd_ne h, upd_ne h]
theorem ok_WriteU_initU (T : Txt K mg a d) : FnOk P w K mg base CX0 1 a.WriteU_initU d.WriteU_initU ["self", "record", "value", "fate", "holder", "level"] (spWrI a) := by
  refine T.WriteU_initU.ok sc_WriteU_initU (fun vs H Q E h => ?_) (fun cdv A outer s H vs Q E hr h => ?_)
  · obtain ⟨x, dx, r, rfl, _⟩ := h
    rfl
  · obtain ⟨x, dx, r, rfl, hx, k⟩ := h
    have c1 := T.k_Write
    have n1 := T.na_Write_record
    have n2 := T.na_Write_value
    have n3 := T.na_Write_fate
    have n4 := T.na_Write_holder
    have n5 := T.na_Write_level
    refine ⟨_, (pss_cons (ps_fld (pv 0) (pv 1) rfl)
  (pss_cons (ps_fld (pv 0) (pv 2) rfl)
  (pss_cons (ps_fld (pv 0) (pv 3) rfl)
  (pss_cons (ps_fld (pv 0) (pv 4) rfl)
  (pss_one (ps_fld (pv 0) (pv 5) rfl)))))), ?_⟩
    dsimp only [cxOf]
    walk_at "rd"
    rw [upd_upd, upd_upd, upd_upd, upd_upd]
    exact k
def spWait (a : Ad) : Sp := fun vs H Q _ => ∃ L D z, vs = [.ref L.db, .str z] ∧ DB a H L D ∧ Sm D ∧ ∀ H', Same H H' → Q (.bl (decide (z ∈ outerL D))) H'
theorem inV_strs {z : Str} {l : List Str} : inV (.str z) (l.map V.str) = decide (z ∈ l) := by
  unfold inV
  rw [List.any_map]
  induction l with
  | nil => rfl
  | cons n r ih =>
    rw [List.any_cons, ih]
    show ((n == z) || decide (z ∈ r)) = _
    by_cases h : n = z
    · subst h
      simp
    · have h' : ¬ z = n := fun q => h q.symm
      simp [h, h']
theorem flat_strs {l : List Str} : (l.map V.str).all flatV = true := by
  rw [List.all_map]
  exact List.all_eq_true.mpr fun _ _ => rfl
theorem ok_Database_would_wait (T : Txt K mg a d) : FnOk P w K mg base CX0 3 a.Database_would_wait d.Database_would_wait ["self", "record"] (spWait a) := by
  have G_Database_outer_records : FnOk P w K mg base CX0 2 a.Database_outer_records d.Database_outer_records ["self"] (spRecs a outerL) := ok_Database_outer_records T
  refine T.Database_would_wait.ok sc_Database_would_wait (fun vs H Q E h => ?_) (fun cdv A outer s H vs Q E hr h => ?_)
  · obtain ⟨L, D, z, rfl, _⟩ := h
    rfl
  · obtain ⟨L, D, z, rfl, hD, hm, k⟩ := h
    have h1 := hD.db
    refine ⟨_, (pss_one (ps_ret (pe_cmpR op_in_seq (pv 1) (pe_meth0 (pv 0) T.k_Database T.m_Database_outer_records G_Database_outer_records (hr.mono (by decide)) T.b_Database_outer_records .nil pass0) (by rfl)))), ?_⟩
    dsimp only [cxOf]
    walk_at "rd"
    refine ⟨L, D, rfl, hD, hm, fun H' q s' hq _ => ?_⟩
    refine ⟨q, _, rfl, .inl (SqL.of hq), rfl, flat_strs, ?_⟩
    rw [show (if false = true then !inV (V.str z) ((outerL D).map V.str) else inV (V.str z) ((outerL D).map V.str)) = inV (V.str z) ((outerL D).map V.str) from rfl, inV_strs]
    exact k H' s'
def addD (D : Db) (r : Row) : Db := { D with rows := D.rows ++ [r] }
def writeD (D : Db) (z : Str) (v : V) : Db × Option EK := match D.stack with
  | none :: _ => if z ∈ outerL D then (D, some (.waits z)) else (addD D ⟨z, v, "kept", -1, 0⟩, none)
  | some ⟨n, y :: rs⟩ :: _ => (match y with
    | some w => (D, some (.doomed w))
    | none => if z ∈ outerL D then (D, some (.waits z)) else (addD D ⟨z, v, "open", n, rs.length⟩, none))
  | _ => (D, none)
def spWrite (a : Ad) : Sp := fun vs H Q E => ∃ L D z v, vs = [.ref L.db, .str z, v] ∧ DB a H L D ∧ Sm D ∧ outE a (writeD D z v) H L Q E
theorem ok_Database_write (T : Txt K mg a d) : FnOk P w K mg base (L2.CX P w) 4 a.Database_write d.Database_write ["self", "record", "value"] (spWrite a) := by
  have G_Database_would_wait : FnOk P w K mg base CX0 3 a.Database_would_wait d.Database_would_wait ["self", "record"] (spWait a) := ok_Database_would_wait T
  have G_WriteU_initU : FnOk P w K mg base CX0 1 a.WriteU_initU d.WriteU_initU ["self", "record", "value", "fate", "holder", "level"] (spWrI a) := ok_WriteU_initU T
  refine T.Database_write.okX sc_Database_write (fun vs H Q E h => ?_) (fun cdv A outer s H vs Q E hr h => ?_)
  · obtain ⟨L, D, z, v, rfl, _⟩ := h
    rfl
  · obtain ⟨L, D, z, v, rfl, hD, hm, k⟩ := h
    have c1 := T.k_Database
    have c2 := T.k_Transaction
    have n1 := T.na_Database_stack
    have n2 := T.na_Database_rows
    have n3 := T.na_Transaction_reasons
    have n4 := T.na_Transaction_number
    have h1 := hD.db
    have h2 := hD.s
    have lr : (L.ws.map fun w => V.ref w.1).length < sizeLine := by
      rw [List.length_map, hD.rows.len, sizeLine_eq]
      have := hm.n
      omega
    refine ⟨_, (pss_cons (ps_set (i := 3) sc_Database_write.nd rfl (Or.inl rfl) (pe_ix ix_list (pe_fld (pv 0) rfl) (pe_un un_neg pe_int) (fun _ _ => rfl)))
  (pss_cons (ps_if (PW.pt (pw_and (pt_cmpR op_notN (pv 3) pe_non (nomark _)) (pw_and1 (pt_cmpR op_notN (pe_ix ix_list (pe_fld (pv 3) rfl) (pe_un un_neg pe_int) (fun _ _ => rfl)) pe_non (nomark _))))) (pss_one (ps_raise rfl (takes_of rfl rfl rfl rfl) (pmk_err T.e_Doomed T.g_Doomed T.n_super hr (pa_cons (pe_ix ix_list (pe_fld (pv 3) rfl) (pe_un un_neg pe_int) (fun _ _ => rfl)) pa_nil)))) pss_nil)
  (pss_cons (ps_if (pt_val (pe_meth (pv 0) T.k_Database T.m_Database_would_wait G_Database_would_wait (hr.mono (by decide)) T.b_Database_would_wait .nil pass0 (pa_cons (pv 1) pa_nil))) (pss_one (ps_raise rfl (takes_of rfl rfl rfl rfl) (pmk_err T.e_Waits T.g_Waits T.n_super hr (pa_cons (pv 1) pa_nil)))) pss_nil)
  (pss_one (ps_if (pt_cmpR op_isN (pv 3) pe_non (nomark _)) (pss_one (ps_expr (pe_bm PySem.F.plainAttrs_list PySem.F.slot_list_append PySem.F.type_list_append mt_append (pe_fld (pv 0) rfl) (pa_cons (pe_make T.mk_Write G_WriteU_initU (hr.mono (by decide)) (by rfl) T.g_Write T.b_WriteU_initU .nil pass0 (pa_cons (pv 1) (pa_cons (pv 2) (pa_cons pe_str (pa_cons (pe_un un_neg pe_int) (pa_cons pe_int pa_nil)))))) pa_nil)))) (pss_one (ps_expr (pe_bm PySem.F.plainAttrs_list PySem.F.slot_list_append PySem.F.type_list_append mt_append (pe_fld (pv 0) rfl) (pa_cons (pe_make T.mk_Write G_WriteU_initU (hr.mono (by decide)) (by rfl) T.g_Write T.b_WriteU_initU .nil pass0 (pa_cons (pv 1) (pa_cons (pv 2) (pa_cons pe_str (pa_cons (pe_fld (pv 3) rfl) (pa_cons (pe_op op_sub (pe_callB call_len_seq (by rfl) T.n_len PySem.boot_len (pa_cons (pe_fld (pv 3) rfl) pa_nil)) pe_int) pa_nil)))))) pa_nil))))))))), ?_⟩
    dsimp only [cxOf]
    unfold writeD at k
    -- the row made
    have mk : ∀ (r : Row) {H1 : Hp}, Same H H1 → outE a (addD D r, none) H L Q E → ∀ x dx, H1 x = none → H1 dx = none → dx ≠ x → Q .non (upd (upd (upd (upd H1 dx (HO.own x)) x (HO.ins a.Write dx [])) x (HO.ins a.Write dx (rwF r))) L.r (.lst ((L.ws.map fun w => V.ref w.1) ++ [.ref x]))) := fun r H1 s1 k x dx hx hdx nx => by
      have s2 : Same H (upd (upd (upd H1 dx (HO.own x)) x (HO.ins a.Write dx [])) x (HO.ins a.Write dx (rwF r))) := ((s1.new hdx).frsh (s1.free hx)).frsh (s1.free hx)
      have hD2 : DB a _ L D := hD.keep fun b u _ e => s2 b u e
      have hD3 := hD2.addRow (w := (x, dx)) (x := r) upd_same (hD.fresh (s1.free hx))
      have f3 := Fr.addRow (L := L) (w := (x, dx)) (o := .lst ((L.ws ++ [(x, dx)]).map fun w => .ref w.1)) (.of_same s2) (s1.free hx)
      have z := k _ _ hD3 f3
      rw [List.map_append] at z
      exact z
    rcases hD.top with ⟨ts, st, et, es⟩ | ⟨t, ts, x, st, y, rs, et, es, ex, h4, h5⟩
    · rw [es] at k
      rw [et] at h2
      have e1 := rv_at (f := tV) (x := none) (l := ts)
      walk_at "rd"
      refine ⟨L, D, z, rfl, hD, hm, fun H1 s1 => ?_⟩
      have hD1 : DB a H1 L D := hD.keep fun b u _ e => s1 b u e
      have j1 := hD1.db
      have j2 := hD1.r
      by_cases b1 : z ∈ outerL D
      · rw [if_pos b1] at k
        rw [decide_eq_true b1]
        walk_at "rd"
        exact k H1 L hD1 (Fr.same s1)
      · rw [if_neg b1] at k
        rw [decide_eq_false b1]
        walk_at "rd"
        intro x dx hx hdx nx
        refine ⟨x, dx, ⟨z, v, "kept", -1, 0⟩, rfl, upd_same, rfl, ?_⟩
        have q1 : upd (upd (upd H1 dx (HO.own x)) x (HO.ins a.Write dx [])) x (HO.ins a.Write dx (rwF ⟨z, v, "kept", -1, 0⟩)) L.r = some (.lst (L.ws.map fun w => .ref w.1)) := upd_oth (ne_of_none j2 hx) (upd_oth (ne_of_none j2 hx) (upd_old j2 hdx))
        refine ⟨L.r, _, _, rfl, rfl, q1, lr, mk _ s1 k x dx hx hdx nx⟩
    · obtain ⟨n, rs0⟩ := x
      dsimp only at ex
      subst ex
      rw [es] at k
      rw [et] at h2
      have e1 := rv_at (f := tV) (x := some t) (l := ts)
      have e2 := rv_at (f := oV) (x := y) (l := rs)
      cases y with
      | some y =>
        walk_at "rd"
        exact k H L hD Fr.refl
      | none =>
        walk_at "rd"
        refine ⟨L, D, z, rfl, hD, hm, fun H1 s1 => ?_⟩
        have hD1 : DB a H1 L D := hD.keep fun b u _ e => s1 b u e
        have j1 := hD1.db
        have j2 := hD1.r
        have j4 := s1 _ _ h4
        have j5 := s1 _ _ h5
        dsimp only at k
        by_cases b1 : z ∈ outerL D
        · rw [if_pos b1] at k
          rw [decide_eq_true b1]
          walk_at "rd"
          exact k H1 L hD1 (Fr.same s1)
        · rw [if_neg b1] at k
          rw [decide_eq_false b1]
          walk_at "rd"
          rw [rv_len]
          intro x dx hx hdx nx
          have el : ((none :: rs : List (Option Str)).length : Int) - 1 = (rs.length : Int) := by rw [List.length_cons]; omega
          refine ⟨x, dx, ⟨z, v, "open", n, rs.length⟩, ?_, upd_same, rfl, ?_⟩
          · show _ = [V.ref x, V.str z, v, V.str "open", V.int n, V.int (rs.length : Int)]
            rw [← el]; rfl
          have q1 : upd (upd (upd H1 dx (HO.own x)) x (HO.ins a.Write dx [])) x (HO.ins a.Write dx (rwF ⟨z, v, "open", n, rs.length⟩)) L.r = some (.lst (L.ws.map fun w => .ref w.1)) := upd_oth (ne_of_none j2 hx) (upd_oth (ne_of_none j2 hx) (upd_old j2 hdx))
          refine ⟨L.r, _, _, rfl, rfl, q1, lr, mk _ s1 k x dx hx hdx nx⟩
def setV (D : Db) (u v : V) : Db × Option EK := if wordB u = true then (match u with
  | .str z => writeD D z v
  | _ => (D, none)) else (D, some (.badword u))
theorem setV_word {D : Db} {z : Str} {v : V} (h : IsWord z) : setV D (.str z) v = writeD D z v := by
  unfold setV
  rw [if_pos (show wordB (.str z) = true from h.ok)]
def spSet (a : Ad) : Sp := fun vs H Q E => ∃ L D u v, vs = [.ref L.db, u, v] ∧ Thing H u ∧ DB a H L D ∧ Sm D ∧ outE a (setV D u v) H L Q E
theorem ok_DatabaseU_setitemU (T : Txt K mg a d) : FnOk P w K mg base (L2.CX P w) 5 a.DatabaseU_setitemU d.DatabaseU_setitemU ["self", "record", "value"] (spSet a) := by
  have G_is_word : FnOk P w K mg base CX0 1 a.is_word d.is_word ["thing"] spIsWord := ok_is_word T
  have G_Database_write : FnOk P w K mg base (L2.CX P w) 4 a.Database_write d.Database_write ["self", "record", "value"] (spWrite a) := ok_Database_write T
  refine T.DatabaseU_setitemU.okX sc_DatabaseU_setitemU (fun vs H Q E h => ?_) (fun cdv A outer s H vs Q E hr h => ?_)
  · obtain ⟨L, D, u, v, rfl, _⟩ := h
    rfl
  · obtain ⟨L, D, u, v, rfl, tu, hD, hm, k⟩ := h
    have h1 := hD.db
    refine ⟨_, (pss_cons (ps_if (pt_not (pt_val (pe_call G_is_word (hr.mono (by decide)) (by rfl) T.g_is_word T.is_word.kp T.b_is_word .nil pass0 (pa_cons (pv 1) pa_nil)))) (pss_one (ps_raise rfl (takes_of rfl rfl rfl rfl) (pmk_err T.e_BadWord T.g_BadWord T.n_super hr (pa_cons (pv 1) pa_nil)))) pss_nil)
  (pss_one (ps_expr (pe_meth (pv 0) T.k_Database T.m_Database_write G_Database_write (hr.mono (by decide)) T.b_Database_write .nil (passes_call (takes_of rfl rfl rfl rfl) (fun _ _ _ _ h => h)) (pa_cons (pv 1) (pa_cons (pv 2) pa_nil)))))), ?_⟩
    try dsimp only [cxOf]
    walk_at "rd"
    unfold setV at k
    cases bz : wordB u with
    | false =>
      rw [bz] at k
      refine iteT ?_
      walk_at "rd"
      exact k H L hD Fr.refl
    | true =>
      rw [bz, if_pos rfl] at k
      refine iteF ?_
      obtain ⟨z, rfl⟩ : ∃ z, u = .str z := by
        cases u <;> first | exact ⟨_, rfl⟩ | cases bz
      walk_at "rd"
      exact ⟨L, D, z, v, rfl, hD, hm, k⟩
/-! ### sees, [], in -/
def seesD (D : Db) (r : Row) : Bool := if r.fate = "open" then (match D.stack with | some x :: _ => decide (r.holder = x.num) | _ => false) else decide (r.fate = "kept")
def spSees (a : Ad) : Sp := fun vs H Q _ => ∃ (L : Lay) (D : Db) (w' : Addr × Addr) (r : Row), vs = [.ref L.db, .ref w'.1] ∧ H w'.1 = some (.ins a.Write w'.2 (rwF r)) ∧ DB a H L D ∧ Q (.bl (seesD D r)) H
theorem str_dec {x y : Str} : decide (V.str x = V.str y) = decide (x = y) := decide_eq_decide.mpr ⟨fun h => V.str.inj h, fun h => congrArg V.str h⟩
theorem int_dec {x y : Int} : decide (V.int x = V.int y) = decide (x = y) := decide_eq_decide.mpr ⟨fun h => V.int.inj h, fun h => congrArg V.int h⟩
theorem ok_Database_sees (T : Txt K mg a d) : FnOk P w K mg base CX0 1 a.Database_sees d.Database_sees ["self", "row"] (spSees a) := by
  refine T.Database_sees.ok sc_Database_sees (fun vs H Q E h => ?_) (fun cdv A outer s H vs Q E hr h => ?_)
  · obtain ⟨L, D, w', r, rfl, _⟩ := h
    rfl
  · obtain ⟨L, D, w', r, rfl, hw, hD, k⟩ := h
    have c1 := T.k_Database
    have c2 := T.k_Transaction
    have c3 := T.k_Write
    have n1 := T.na_Database_stack
    have n4 := T.na_Transaction_number
    have n5 := T.na_Write_fate
    have n6 := T.na_Write_holder
    have h1 := hD.db
    have h2 := hD.s
    refine ⟨_, (pss_cons (ps_if (pt_cmpR op_eq (pe_fld (pv 1) rfl) pe_str (nomark _)) (pss_one (ps_ret (pe_and (pe_cmpR op_notN (pe_ix ix_list (pe_fld (pv 0) rfl) (pe_un un_neg pe_int) (fun _ _ => rfl)) pe_non (nomark _)) (pe_one (pe_cmpR op_eq (pe_fld (pv 1) rfl) (pe_fld (pe_ix ix_list (pe_fld (pv 0) rfl) (pe_un un_neg pe_int) (fun _ _ => rfl)) rfl) (nomark _)))))) pss_nil)
  (pss_one (ps_ret (pe_cmpR op_eq (pe_fld (pv 1) rfl) pe_str (nomark _))))), ?_⟩
    dsimp only [cxOf]
    unfold seesD at k
    walk_at "rd"
    refine ite2 (fun b1 => ?_) (fun b1 => ?_)
    · have q1 : r.fate = "open" := V.str.inj (of_decide_eq_true b1)
      rw [if_pos q1] at k
      rcases hD.top with ⟨ts, st, et, es⟩ | ⟨t, ts, x, st, y, rs, et, es, ex, h4, h5⟩
      · rw [es] at k
        rw [et] at h2
        have e1 := rv_at (f := tV) (x := none) (l := ts)
        walk_at "rd"
        exact k
      · rw [es] at k
        rw [et] at h2
        have e1 := rv_at (f := tV) (x := some t) (l := ts)
        walk_at "rd"
        first
          | exact k
          | (rw [int_dec]; exact k)
    · have q1 : ¬ r.fate = "open" := fun e => b1 (decide_eq_true (congrArg V.str e))
      rw [if_neg q1] at k
      walk_at "rd"
      first
        | exact k
        | (rw [str_dec]; exact k)
def hitR (D : Db) (z : Str) (r : Row) : Bool := decide (r.rcd = z) && seesD D r
def foundL (D : Db) (z : Str) : List Row := D.rows.filter (hitR D z)
theorem filter_step {α : Type} {p : α → Bool} {l : List α} {i : Nat} {x : α} (h : l[i]? = some x) : (l.take (i + 1)).filter p = (l.take i).filter p ++ (if p x = true then [x] else []) := by
  rw [List.take_add_one, h, List.filter_append]
  show _ ++ List.filter p [x] = _
  rw [List.filter_cons, List.filter_nil]
theorem at_last {xs : List V} {x : V} : atI (xs ++ [x]) (-1) = some x := by
  have h := rv_at (f := id) (x := x) (l := xs.reverse)
  unfold rv at h
  simpa using h
def hasV (D : Db) : V → Bool
  | .str z => wordS z && !(foundL D z).isEmpty
  | _ => false
def getV (D : Db) : V → Sum V EK
  | .str z => if wordS z = true then (match (foundL D z).getLast? with | some r => .inl r.val | none => .inr (.norecord z)) else .inr (.badword (.str z))
  | v => .inr (.badword v)
/-- what [] leaves -/
def outG (a : Ad) (r : Sum V EK) (H : Hp) (Q : VK) (E : XK) : Prop := ∀ H', Same H H' → match r with
  | .inl v => Q v H'
  | .inr e => errE a e H' E
def spHas (a : Ad) : Sp := fun vs H Q _ => ∃ L D u, vs = [.ref L.db, u] ∧ Thing H u ∧ DB a H L D ∧ Sm D ∧ ∀ H', Same H H' → Q (.bl (hasV D u)) H'
def spGet (a : Ad) : Sp := fun vs H Q E => ∃ L D u, vs = [.ref L.db, u] ∧ Thing H u ∧ DB a H L D ∧ Sm D ∧ outG a (getV D u) H Q E
theorem found_sz {D : Db} {i : Nat} {z : Str} {f : Row → V} (hm : Sm D) : (((D.rows.take i).filter (hitR D z)).map f).length < sizeLine := by
  have h1 := List.length_filter_le (hitR D z) (D.rows.take i)
  have h2 := hm.n
  rw [List.length_take] at h1
  rw [List.length_map, sizeLine_eq]; omega
theorem ok_DatabaseU_getitemU (T : Txt K mg a d) : FnOk P w K mg base (L2.CX P w) 2 a.DatabaseU_getitemU d.DatabaseU_getitemU ["self", "record"] (spGet a) := by
  have G_is_word : FnOk P w K mg base CX0 1 a.is_word d.is_word ["thing"] spIsWord := ok_is_word T
  have G_Database_sees : FnOk P w K mg base CX0 1 a.Database_sees d.Database_sees ["self", "row"] (spSees a) := ok_Database_sees T
  refine T.DatabaseU_getitemU.okX sc_DatabaseU_getitemU (fun vs H Q E h => ?_) (fun cdv A outer s H vs Q E hr h => ?_)
  · obtain ⟨L, D, u, rfl, _⟩ := h
    rfl
  · obtain ⟨L, D, u, rfl, tu, hD, hm, k⟩ := h
    have c1 := T.k_Database
    have c3 := T.k_Write
    have n2 := T.na_Database_rows
    have n5 := T.na_Write_value
    have n7 := T.na_Write_record
    have h1 := hD.db
    have h2 := hD.r
    refine ⟨_, (pss_cons (ps_if (pt_not (pt_val (pe_call G_is_word (hr.mono (by decide)) (by rfl) T.g_is_word T.is_word.kp T.b_is_word .nil pass0 (pa_cons (pv 1) pa_nil)))) (pss_one (ps_raise rfl (takes_of rfl rfl rfl rfl) (pmk_err T.e_BadWord T.g_BadWord T.n_super hr (pa_cons (pv 1) pa_nil)))) pss_nil)
  (pss_cons (ps_setLc (i := 2) (own := [("row", 3)]) rfl sc_DatabaseU_getitemU.nd rfl rfl (sw_true rfl rfl rfl (by decide +kernel)) (pi_list (pe_fld (pv 0) rfl)) (blkOk_by (own := [("row", 3)]) (N := ["self", "record", "found", "row"]) (sc := defScope s_DatabaseU_getitemU) (by decide +kernel)) (fun _ _ _ _ _ => (pg_name (i := 3) sc_DatabaseU_getitemU.nd rfl (Or.inl rfl))) (fun _ _ _ _ _ => (pts_one (PW.pt (pw_and (pt_cmpR op_eq (pe_fldK (K := K) rfl (pv 3) rfl) (pv 1) (nomark _)) (pw_and1 (pt_val (pe_meth (pv 0) T.k_Database T.m_Database_sees G_Database_sees (hr.mono (by decide)) T.b_Database_sees .nil pass0 (pa_cons (pv 3) pa_nil)))))))) (fun _ _ _ _ _ => (pe_fldK (K := K) rfl (pv 3) rfl)))
  (pss_cons (ps_if (pt_cmpR (op_eqE hr.units) (pv 2) (pe_lst pa_nil) (nomark _)) (pss_one (ps_raise rfl (takes_of rfl rfl rfl rfl) (pmk_err T.e_NoRecord T.g_NoRecord T.n_super hr (pa_cons (pv 1) pa_nil)))) pss_nil)
  (pss_one (ps_ret (pe_ix ix_list (pv 2) (pe_un un_neg pe_int) (fun _ _ => rfl))))))), ?_⟩
    try dsimp only [cxOf]
    walk_at "rd"
    cases bz : wordB u with
    | false =>
      have e : getV D u = .inr (.badword u) := by
        cases u with
        | str z => exact if_neg (by rw [show wordS z = false from bz]; simp)
        | _ => rfl
      rw [e] at k
      refine iteT ?_
      walk_at "rd"
      exact k H (Same.refl H)
    | true =>
      refine iteF ?_
      obtain ⟨z, rfl⟩ : ∃ z, u = .str z := by
        cases u <;> first | exact ⟨_, rfl⟩ | cases bz
      have e : getV D (.str z) = (match (foundL D z).getLast? with | some r => .inl r.val | none => .inr (.norecord z)) := if_pos bz
      rw [e] at k
      walk_at "rd"
      refine ⟨⟨_, SqL.of h2⟩, ?_⟩
      intro S hS
      have hlw : L.ws.length = D.rows.length := hD.rows.len
      refine lc_list (xs := L.ws.map fun w => V.ref w.1) (fun i H' => Same H H' ∧ H' S = some (.lst (((D.rows.take i).filter (hitR D z)).map (·.val)))) ?_ ?_ ?_ ?_
      · exact ⟨(Same.refl H).new hS, upd_same⟩
      · rintro i H' _ ⟨s1, _⟩
        exact SqL.of (s1 _ _ h2)
      · rintro i v H' hv ⟨s1, hS'⟩
        obtain ⟨w', hw, rfl⟩ := map_ref hv
        obtain ⟨x, hx, hxw⟩ := hD.rows.get hw
        have hxw : H w'.1 = some (.ins a.Write w'.2 (rwF x)) := hxw
        have hx' := s1 _ _ hxw
        have hl := found_sz (i := i) (z := z) (f := (·.val)) hm
        have hD' : DB a H' L D := hD.keep fun b u _ e => s1 b u e
        have hd' := hD'.db
        rw [filter_step (p := hitR D z) hx]
        walk_at "rd"
        refine ite2 (fun b1 => ?_) (fun b1 => ?_)
        · have q1 : x.rcd = z := V.str.inj (of_decide_eq_true b1)
          walk_at "rd"
          refine ⟨L, D, w', x, rfl, hx', hD', ?_⟩
          have eh : hitR D z x = seesD D x := by unfold hitR; rw [decide_eq_true q1, Bool.true_and]
          rw [eh]
          cases b2 : seesD D x with
          | true =>
            walk_at "rd"
            exact ⟨s1.frsh hS, by rw [if_pos rfl, List.map_append]; exact upd_same⟩
          | false =>
            walk_at "rd"
            rw [if_neg (by simp), List.append_nil]
            exact hS'
        · have q1 : ¬ x.rcd = z := fun e => b1 (decide_eq_true (congrArg V.str e))
          have eh : hitR D z x = false := by unfold hitR; rw [decide_eq_false q1]; rfl
          rw [eh]
          exact ⟨s1, by rw [if_neg (by simp), List.append_nil]; exact hS'⟩
      · rintro H' ⟨s1, hS'⟩
        rw [List.length_map, hlw, List.take_length] at hS'
        change H' S = some (.lst ((foundL D z).map (·.val))) at hS'
        walk_at "rd"
        intro n hn
        have sS : Same H (upd H' n (.lst [])) := s1.new hn
        refine ⟨S, n, _, rfl, rfl, SqL.of (upd_old hS' hn), SqL.of upd_same, ?_⟩
        have hS2 : upd H' n (.lst []) S = some (.lst ((foundL D z).map (·.val))) := upd_old hS' hn
        rcases List.eq_nil_or_concat (foundL D z) with e0 | ⟨l, r, e0⟩
        · rw [e0] at k ⊢
          walk_at "rd"
          exact k _ sS
        · rw [e0, List.concat_eq_append] at k hS2 ⊢
          rw [List.map_append] at hS2 ⊢
          rw [List.getLast?_append] at k
          have e1 : atI (List.map (fun x => x.val) l ++ List.map (fun x => x.val) [r]) (-1) = some r.val := at_last (xs := l.map (·.val)) (x := r.val)
          rw [show (List.map (fun x => x.val) l ++ List.map (fun x => x.val) [r]).isEmpty = false by simp]
          walk_at "rd"
          exact k _ sS
theorem map_fst {α β γ : Type} {l : List α} {f : α → β} {g : β → γ} : (l.map f).map g = l.map fun x => g (f x) := by rw [List.map_map]; rfl
/-- the addresses of the rows that are hit -/
def hitW (D : Db) (z : Str) : List (Addr × Addr) → List Row → List V
  | w :: ws, r :: rs => (if hitR D z r = true then [.ref w.1] else []) ++ hitW D z ws rs
  | _, _ => []
theorem hitW_step {D : Db} {z : Str} : ∀ {ws : List (Addr × Addr)} {rs : List Row} {i : Nat} {w : Addr × Addr} {r : Row}, ws[i]? = some w → rs[i]? = some r → hitW D z (ws.take (i + 1)) (rs.take (i + 1)) = hitW D z (ws.take i) (rs.take i) ++ (if hitR D z r = true then [.ref w.1] else [])
  | w :: ws, r :: rs, 0, _, _, h1, h2 => by
    cases h1; cases h2
    simp [hitW]
  | w :: ws, r :: rs, i + 1, w', r', h1, h2 => by
    have := hitW_step (D := D) (z := z) (ws := ws) (rs := rs) (i := i) (w := w') (r := r') h1 h2
    simp only [List.take_succ_cons, hitW, this, List.append_assoc]
  | [], _, _, _, _, h1, _ => by simp at h1
  | _ :: _, [], _, _, _, _, h2 => by simp at h2
theorem hitW_len {D : Db} {z : Str} : ∀ {ws : List (Addr × Addr)} {rs : List Row}, (hitW D z ws rs).length ≤ rs.length
  | w :: ws, r :: rs => by
    have := hitW_len (D := D) (z := z) (ws := ws) (rs := rs)
    simp only [hitW, List.length_append, List.length_cons]
    split <;> simp <;> omega
  | [], rs => by simp [hitW]
  | _ :: _, [] => by simp [hitW]
theorem hitW_nil {D : Db} {z : Str} : ∀ {ws : List (Addr × Addr)} {rs : List Row}, ws.length = rs.length → (hitW D z ws rs).isEmpty = (rs.filter (hitR D z)).isEmpty
  | w :: ws, r :: rs, h => by
    have := hitW_nil (D := D) (z := z) (ws := ws) (rs := rs) (Nat.succ.inj h)
    rw [List.filter_cons]
    simp only [hitW]
    split <;> simp_all
  | [], [], _ => rfl
  | [], _ :: _, h => nomatch h
  | _ :: _, [], h => nomatch h
theorem ok_DatabaseU_containsU (T : Txt K mg a d) : FnOk P w K mg base CX0 2 a.DatabaseU_containsU d.DatabaseU_containsU ["self", "record"] (spHas a) := by
  have G_is_word : FnOk P w K mg base CX0 1 a.is_word d.is_word ["thing"] spIsWord := ok_is_word T
  have G_Database_sees : FnOk P w K mg base CX0 1 a.Database_sees d.Database_sees ["self", "row"] (spSees a) := ok_Database_sees T
  refine T.DatabaseU_containsU.ok sc_DatabaseU_containsU (fun vs H Q E h => ?_) (fun cdv A outer s H vs Q E hr h => ?_)
  · obtain ⟨L, D, u, rfl, _⟩ := h
    rfl
  · obtain ⟨L, D, u, rfl, tu, hD, hm, k⟩ := h
    have c1 := T.k_Database
    have c3 := T.k_Write
    have n2 := T.na_Database_rows
    have n7 := T.na_Write_record
    have h1 := hD.db
    have h2 := hD.r
    refine ⟨_, (pss_one (ps_ret (pe_and (pe_call G_is_word (hr.mono (by decide)) (by rfl) T.g_is_word T.is_word.kp T.b_is_word .nil pass0 (pa_cons (pv 1) pa_nil)) (pe_one (pe_cmpR (op_neE hr.units) (pe_lc (own := [("row", 2)]) rfl sc_DatabaseU_containsU.nd (pi_list (pe_fld (pv 0) rfl)) (blkOk_by (own := [("row", 2)]) (N := ["self", "record", "row"]) (sc := defScope s_DatabaseU_containsU) (by decide +kernel)) (fun _ _ _ _ _ => (pg_name (i := 2) sc_DatabaseU_containsU.nd rfl (Or.inl rfl))) (fun _ _ _ _ _ => (pts_one (PW.pt (pw_and (pt_cmpR op_eq (pe_fldK (K := K) rfl (pv 2) rfl) (pv 1) (nomark _)) (pw_and1 (pt_val (pe_meth (pv 0) T.k_Database T.m_Database_sees G_Database_sees (hr.mono (by decide)) T.b_Database_sees .nil pass0 (pa_cons (pv 2) pa_nil)))))))) (fun _ _ _ _ _ => (pv 2))) (pe_lst pa_nil) (nomark _)))))), ?_⟩
    try dsimp only [cxOf]
    walk_at "rd"
    cases bz : wordB u with
    | false =>
      have e : hasV D u = false := by
        cases u with
        | str z => show (wordS z && _) = false; rw [show wordS z = false from bz]; rfl
        | _ => rfl
      rw [e] at k
      walk_at "rd"
      exact k H (Same.refl H)
    | true =>
      obtain ⟨z, rfl⟩ : ∃ z, u = .str z := by
        cases u <;> first | exact ⟨_, rfl⟩ | cases bz
      have e : hasV D (.str z) = !(foundL D z).isEmpty := by show (wordS z && _) = _; rw [show wordS z = true from bz]; rfl
      rw [e] at k
      walk_at "rd"
      refine ⟨⟨_, SqL.of h2⟩, ?_⟩
      intro S hS
      have hlw : L.ws.length = D.rows.length := hD.rows.len
      refine lc_list (xs := L.ws.map fun w => V.ref w.1) (fun i H' => Same H H' ∧ H' S = some (.lst (hitW D z (L.ws.take i) (D.rows.take i)))) ?_ ?_ ?_ ?_
      · exact ⟨(Same.refl H).new hS, upd_same⟩
      · rintro i H' _ ⟨s1, _⟩
        exact SqL.of (s1 _ _ h2)
      · rintro i v H' hv ⟨s1, hS'⟩
        obtain ⟨w', hw, rfl⟩ := map_ref hv
        obtain ⟨x, hx, hxw⟩ := hD.rows.get hw
        have hxw : H w'.1 = some (.ins a.Write w'.2 (rwF x)) := hxw
        have hx' := s1 _ _ hxw
        have hl : (hitW D z (L.ws.take i) (D.rows.take i)).length < sizeLine := by
          have q1 := hitW_len (D := D) (z := z) (ws := L.ws.take i) (rs := D.rows.take i)
          have q2 := hm.n
          rw [List.length_take] at q1
          rw [sizeLine_eq]; omega
        have hD' : DB a H' L D := hD.keep fun b u _ e => s1 b u e
        have hd' := hD'.db
        rw [hitW_step hw hx]
        walk_at "rd"
        refine ite2 (fun b1 => ?_) (fun b1 => ?_)
        · have q1 : x.rcd = z := V.str.inj (of_decide_eq_true b1)
          walk_at "rd"
          refine ⟨L, D, w', x, rfl, hx', hD', ?_⟩
          have eh : hitR D z x = seesD D x := by unfold hitR; rw [decide_eq_true q1, Bool.true_and]
          rw [eh]
          cases b2 : seesD D x with
          | true =>
            walk_at "rd"
            exact ⟨s1.frsh hS, by rw [if_pos rfl]; exact upd_same⟩
          | false =>
            walk_at "rd"
            rw [if_neg (by simp), List.append_nil]
            exact hS'
        · have q1 : ¬ x.rcd = z := fun e => b1 (decide_eq_true (congrArg V.str e))
          have eh : hitR D z x = false := by unfold hitR; rw [decide_eq_false q1]; rfl
          rw [eh]
          exact ⟨s1, by rw [if_neg (by simp), List.append_nil]; exact hS'⟩
      · rintro H' ⟨s1, hS'⟩
        rw [List.length_map, List.take_length, hlw, List.take_length] at hS'
        walk_at "rd"
        intro n hn
        have sS : Same H (upd H' n (.lst [])) := s1.new hn
        refine ⟨S, n, _, rfl, rfl, SqL.of (upd_old hS' hn), SqL.of upd_same, ?_⟩
        rw [hitW_nil hlw]
        exact k _ sS
/-! ### several databases and cells (lists, dicts, tuples), apart from one another -/
theorem get_set {α : Type} {l : List α} {i j : Nat} {x y : α} (h : (l.set i x)[j]? = some y) : (j = i ∧ y = x) ∨ (j ≠ i ∧ l[j]? = some y) := by
  rw [List.getElem?_set] at h
  by_cases e : i = j
  · rw [if_pos e] at h
    split at h
    · exact .inl ⟨e.symm, (Option.some.inj h).symm⟩
    · cases h
  · rw [if_neg e] at h
    exact .inr ⟨fun z => e z.symm, h⟩
theorem get_app {α : Type} {l : List α} {j : Nat} {x y : α} (h : (l ++ [x])[j]? = some y) : (j = l.length ∧ y = x) ∨ (j ≠ l.length ∧ l[j]? = some y) := by
  rcases Nat.lt_trichotomy j l.length with lt | eq | gt
  · rw [List.getElem?_append_left lt] at h
    exact .inr ⟨by omega, h⟩
  · subst eq
    rw [List.getElem?_append_right (Nat.le_refl _), Nat.sub_self] at h
    exact .inl ⟨rfl, (Option.some.inj h).symm⟩
  · rw [List.getElem?_append_right (by omega)] at h
    have : j - l.length ≠ 0 := by omega
    cases e : j - l.length with
    | zero => exact absurd e this
    | succ k => rw [e] at h; simp at h
structure Wd (a : Ad) (H0 H : Hp) (ds : List (Lay × Db)) (cs : List (Addr × HO)) : Prop where
  same : Same H0 H
  db : ∀ (j : Nat) (x : Lay × Db), ds[j]? = some x → DB a H x.1 x.2
  df : ∀ (j : Nat) (x : Lay × Db), ds[j]? = some x → ∀ b, Mut x.1 b → H0 b = none
  dd : ∀ (i j : Nat) (x y : Lay × Db), ds[i]? = some x → ds[j]? = some y → i ≠ j → ∀ b, Mut x.1 b → ¬ Mut y.1 b
  cl : ∀ (i : Nat) (y : Addr × HO), cs[i]? = some y → H y.1 = some y.2
  ci : ∀ (i : Nat) (y : Addr × HO), cs[i]? = some y → ∀ C dx fs, y.2 ≠ .ins C dx fs
  cf : ∀ (i : Nat) (y : Addr × HO), cs[i]? = some y → H0 y.1 = none
  cc : ∀ (i j : Nat) (y z : Addr × HO), cs[i]? = some y → cs[j]? = some z → i ≠ j → y.1 ≠ z.1
  dc : ∀ (i j : Nat) (x : Lay × Db) (y : Addr × HO), ds[i]? = some x → cs[j]? = some y → ¬ Mut x.1 y.1
section
variable {a : Ad} {H0 H H' : Hp} {ds : List (Lay × Db)} {cs : List (Addr × HO)}
theorem DbAt.kpN {S : Addr → Prop} {aD aT aW : Addr} {L : Lay} {D : Db} (h : DbAt aD aT aW H L D) (k : Kp S H H') (n : ∀ b, S b → ¬ Mut L b ∧ ∀ dx n q, H b ≠ some (.ins aT dx (txF n q))) : DbAt aD aT aW H' L D := by
  refine h.keep fun b u f e => k b u e fun z => ?_
  rcases f with f | ⟨t, m, rfl⟩
  · exact (n b z).1 f
  · obtain ⟨x, h1, _⟩ := h.tx m
    exact (n _ z).2 _ _ _ h1
/-- a transaction's object is none of what may change in a database -/
theorem DbAt.txN {aD aT aW : Addr} {L : Lay} {D : Db} (h : DbAt aD aT aW H L D) {b : Addr} (m : Mut L b) (dx : Addr) (n : Int) (q : Addr) : H b ≠ some (.ins aT dx (txF n q)) := fun e => by
  rcases m with rfl | rfl | rfl | rfl | ⟨t, m, rfl⟩ | ⟨w, m, rfl⟩
  · rw [h.db] at e
    injection e with e
    injection e with _ _ e
    exact absurd (congrArg List.length e) (by simp)
  · rw [h.r] at e; cases e
  · rw [h.s] at e; cases e
  · rw [h.e] at e; cases e
  · obtain ⟨x, _, h2, _⟩ := h.tx m
    rw [h2] at e; cases e
  · obtain ⟨x, h1⟩ := h.row m
    rw [h1] at e
    injection e with e
    injection e with _ _ e
    exact absurd (congrArg List.length e) (by simp)
theorem wd_new : Wd a H H [] [] := ⟨Same.refl H, by simp, by simp, by simp, by simp, by simp, by simp, by simp, by simp⟩
theorem Wd.keep (h : Wd a H0 H ds cs) (k : Same H H') : Wd a H0 H' ds cs :=
  ⟨h.same.trans k, fun j x e => (h.db j x e).keep fun b u _ e => k b u e, h.df, h.dd, fun i y e => k _ _ (h.cl i y e), h.ci, h.cf, h.cc, h.dc⟩
theorem Wd.onto {B : Hp} (h : Wd a H0 H ds cs) (s1 : Same B H0) : Wd a B H ds cs :=
  ⟨s1.trans h.same, h.db, fun j x e b m => s1.free (h.df j x e b m), h.dd, h.cl, h.ci, fun i y e => s1.free (h.cf i y e), h.cc, h.dc⟩
/-- the cell i is changed -/
theorem Wd.putC {i : Nat} {p : Addr} {o o' : HO} (h : Wd a H0 H ds cs) (e : cs[i]? = some (p, o)) (k : Kp (fun b => b = p) H H') (e' : H' p = some o') (ni : ∀ C dx fs, o' ≠ .ins C dx fs) : Wd a H0 H' ds (cs.set i (p, o')) := by
  refine ⟨Kp.same h.same k fun b q => q ▸ h.cf i _ e, fun j x ej => (h.db j x ej).kpN k fun b q => ⟨q ▸ h.dc j i x _ ej e, fun dx n qq z => ?_⟩, h.df, h.dd, ?_, ?_, ?_, ?_, ?_⟩
  · rw [q, h.cl i _ e] at z
    exact h.ci i _ e _ _ _ (Option.some.inj z)
  · intro j y ej
    rcases get_set ej with ⟨_, rfl⟩ | ⟨n, ej⟩
    · exact e'
    · exact k _ _ (h.cl j y ej) (h.cc j i y _ ej e n)
  · intro j y ej
    rcases get_set ej with ⟨_, rfl⟩ | ⟨n, ej⟩
    · exact ni
    · exact h.ci j y ej
  · intro j y ej
    rcases get_set ej with ⟨_, rfl⟩ | ⟨n, ej⟩
    · exact h.cf i (p, o) e
    · exact h.cf j y ej
  · intro j l y z ej el n
    rcases get_set ej with ⟨q1, rfl⟩ | ⟨n1, ej⟩ <;> rcases get_set el with ⟨q2, rfl⟩ | ⟨n2, el⟩
    · exact absurd (q1.trans q2.symm) n
    · exact h.cc i l (p, o) z e el (fun q => n2 q.symm)
    · exact h.cc j i y (p, o) ej e n1
    · exact h.cc j l y z ej el n
  · intro j l x y ej el
    rcases get_set el with ⟨q2, rfl⟩ | ⟨n2, el⟩
    · exact h.dc j i x (p, o) ej e
    · exact h.dc j l x y ej el
theorem Wd.setC {i : Nat} {p : Addr} {o : HO} (o' : HO) (h : Wd a H0 H ds cs) (e : cs[i]? = some (p, o)) (ni : ∀ C dx fs, o' ≠ .ins C dx fs) : Wd a H0 (upd H p o') ds (cs.set i (p, o')) :=
  h.putC e Kp.refl.set1 upd_same ni
/-- the database j is changed -/
theorem Wd.putD {j : Nat} {L L' : Lay} {D D' : Db} (h : Wd a H0 H ds cs) (e : ds[j]? = some (L, D)) (hD : DB a H' L' D') (f : Fr H H' L L') : Wd a H0 H' (ds.set j (L', D')) cs := by
  have mt : ∀ b, Mut L' b → Mut L b ∨ H b = none := f.mt
  refine ⟨fun b u q => f.kp b u (h.same b u q) fun z => ?_, ?_, ?_, ?_, fun i y q => f.kp _ _ (h.cl i y q) (h.dc j i _ y e q), h.ci, h.cf, h.cc, ?_⟩
  · rw [h.df j _ e b z] at q; cases q
  · intro i x q
    rcases get_set q with ⟨_, rfl⟩ | ⟨n, q⟩
    · exact hD
    · exact (h.db i x q).kpN f.kp fun b m => ⟨h.dd j i _ x e q (fun z => n z.symm) b m, fun dx nn qq => (h.db j _ e).txN m dx nn qq⟩
  · intro i x q b m
    rcases get_set q with ⟨_, rfl⟩ | ⟨n, q⟩
    · rcases mt b m with z | z
      · exact h.df j _ e b z
      · exact h.same.free z
    · exact h.df i x q b m
  · intro i l x y q1 q2 n b m1 m2
    rcases get_set q1 with ⟨n1, rfl⟩ | ⟨n1, q1⟩ <;> rcases get_set q2 with ⟨n2, rfl⟩ | ⟨n2, q2⟩
    · exact n (n1.trans n2.symm)
    · rcases mt b m1 with z | z
      · exact h.dd j l _ y e q2 (fun z => n2 z.symm) b z m2
      · exact (h.db l y q2).fresh z m2
    · rcases mt b m2 with z | z
      · exact h.dd i j x _ q1 e n1 b m1 z
      · exact (h.db i x q1).fresh z m1
    · exact h.dd i l x y q1 q2 n b m1 m2
  · intro i l x y q1 q2
    rcases get_set q1 with ⟨n1, rfl⟩ | ⟨n1, q1⟩
    · exact f.out (h.cl l y q2) (h.dc j l _ y e q2)
    · exact h.dc i l x y q1 q2
/-- a new cell -/
theorem Wd.addC {p : Addr} {o : HO} (h : Wd a H0 H ds cs) (hp : H p = none) (ni : ∀ C dx fs, o ≠ .ins C dx fs) : Wd a H0 (upd H p o) ds (cs ++ [(p, o)]) := by
  have h' := h.keep ((Same.refl H).new (o := o) hp)
  refine ⟨h'.same, h'.db, h.df, h.dd, ?_, ?_, ?_, ?_, ?_⟩
  · intro i y e
    rcases get_app e with ⟨_, rfl⟩ | ⟨_, e⟩
    · exact upd_same
    · exact h'.cl i y e
  · intro i y e
    rcases get_app e with ⟨_, rfl⟩ | ⟨_, e⟩
    · exact ni
    · exact h.ci i y e
  · intro i y e
    rcases get_app e with ⟨_, rfl⟩ | ⟨_, e⟩
    · exact h.same.free hp
    · exact h.cf i y e
  · intro i j y z e1 e2 n
    rcases get_app e1 with ⟨q1, rfl⟩ | ⟨_, e1⟩ <;> rcases get_app e2 with ⟨q2, rfl⟩ | ⟨_, e2⟩
    · exact absurd (q1.trans q2.symm) n
    · exact Ne.symm (ne_of_none (h.cl j z e2) hp)
    · exact ne_of_none (h.cl i y e1) hp
    · exact h.cc i j y z e1 e2 n
  · intro i j x y e1 e2
    rcases get_app e2 with ⟨q2, rfl⟩ | ⟨_, e2⟩
    · exact (h.db i x e1).fresh hp
    · exact h.dc i j x y e1 e2
/-- cells are forgotten -/
theorem Wd.drop {cs' : List (Addr × HO)} (h : Wd a H0 H ds (cs ++ cs')) : Wd a H0 H ds cs := by
  have g : ∀ {i : Nat} {y : Addr × HO}, cs[i]? = some y → (cs ++ cs')[i]? = some y := fun {i y} e => by
    rw [List.getElem?_append_left (List.getElem?_eq_some_iff.mp e).1]; exact e
  exact ⟨h.same, h.db, h.df, h.dd, fun i y e => h.cl i y (g e), fun i y e => h.ci i y (g e), fun i y e => h.cf i y (g e), fun i j y z e1 e2 => h.cc i j y z (g e1) (g e2), fun i j x y e1 e2 => h.dc i j x y e1 (g e2)⟩
/-- a new database -/
theorem Wd.addD {L : Lay} {D : Db} (h : Wd a H0 H ds cs) (s : Same H H') (hD : DB a H' L D) (mt : ∀ b, Mut L b → H b = none) : Wd a H0 H' (ds ++ [(L, D)]) cs := by
  have h' := h.keep s
  refine ⟨h'.same, ?_, ?_, ?_, h'.cl, h.ci, h.cf, h.cc, ?_⟩
  · intro j x e
    rcases get_app e with ⟨_, rfl⟩ | ⟨_, e⟩
    · exact hD
    · exact h'.db j x e
  · intro j x e b m
    rcases get_app e with ⟨_, rfl⟩ | ⟨_, e⟩
    · exact h.same.free (mt b m)
    · exact h.df j x e b m
  · intro i j x y e1 e2 n b m1 m2
    rcases get_app e1 with ⟨q1, rfl⟩ | ⟨_, e1⟩ <;> rcases get_app e2 with ⟨q2, rfl⟩ | ⟨_, e2⟩
    · exact absurd (q1.trans q2.symm) n
    · exact (h.db j y e2).fresh (mt b m1) m2
    · exact (h.db i x e1).fresh (mt b m2) m1
    · exact h.dd i j x y e1 e2 n b m1 m2
  · intro i j x y e1 e2
    rcases get_app e1 with ⟨q1, rfl⟩ | ⟨_, e1⟩
    · exact fun m => by
        have := mt _ m
        rw [h.cl j y e2] at this; cases this
    · exact h.dc i j x y e1 e2
theorem PoolO.ni {o : HO} {c : Nat} (h : PoolO o c) (C dx : Addr) (fs : List (Str × V)) : o ≠ .ins C dx fs := by
  obtain ⟨x, y, z, e, _⟩ := h
  rw [e]
  exact fun z => by cases z
theorem lst_ni {xs : List V} (C dx : Addr) (fs : List (Str × V)) : HO.lst xs ≠ .ins C dx fs := fun z => by cases z
theorem tup_ni {xs : List V} (C dx : Addr) (fs : List (Str × V)) : HO.tup xs ≠ .ins C dx fs := fun z => by cases z
theorem dK_ni {xs : List (Key × V)} (C dx : Addr) (fs : List (Str × V)) : HO.dK xs ≠ .ins C dx fs := fun z => by cases z
end
theorem Wd.made {a : Ad} {H0 H H1 : Hp} {ds : List (Lay × Db)} {cs : List (Addr × HO)} {x dx : Addr} {L : Lay} {D : Db} (W : Wd a H0 H ds cs) (hx : H x = none) (hdx : H dx = none) (hD : DB a H1 L D) (kp : Kp (fun b => b = x) (upd (upd H dx (.own x)) x (.ins a.Database dx [])) H1) (mt : ∀ b, Mut L b → b = x ∨ upd (upd H dx (.own x)) x (.ins a.Database dx []) b = none) : Wd a H0 H1 (ds ++ [(L, D)]) cs := by
  refine W.addD (fun b u e => kp b u (upd_oth (ne_of_none e hx) (upd_oth (ne_of_none e hdx) e)) (ne_of_none e hx)) hD fun b m => ?_
  rcases mt b m with rfl | z
  · exact hx
  · exact (none_upd (none_upd z).2).2
/-! ### k03, plain: a database in which all is seen, and a dict -/
def lastV (rows : List Row) (z : Str) : Option V := (rows.filter fun r => decide (r.rcd = z)).getLast?.map (·.val)
structure G3 (D : Db) (kvs : List (Key × V)) (n m : Nat) : Prop where
  fl : D.floor = 0
  wf : Wf D.entered D.stack
  dp : D.entered.length = n
  sh : D.stack = [none] ∨ ∃ x, D.stack = [some ⟨x, [none]⟩, none]
  ro : ∀ r ∈ D.rows, r.fate = "kept" ∨ (r.fate = "open" ∧ D.stack = [some ⟨r.holder, [none]⟩, none])
  vl : ∀ z, lastV D.rows z = valV kvs (.inr z)
  ks : ∃ xs : List Str, kvs.map (·.1) = xs.map Sum.inr ∧ ∀ z ∈ xs, IsWord z
  iv : ∀ k v, valV kvs k = some v → ∃ i, v = .int i
  s1 : D.rows.length ≤ m
  s2 : n ≤ m
  s3 : kvs.length ≤ m
theorem kept_open : ¬ (("kept" : Str) = "open") := by decide +kernel
section
variable {D : Db} {kvs : List (Key × V)} {n m : Nat}
theorem g3_new : G3 ⟨[], [none], [], 0, 0⟩ [] 0 0 :=
  ⟨rfl, .nil, rfl, .inl rfl, (fun r h => nomatch h), fun _ => rfl, ⟨[], rfl, fun _ h => nomatch h⟩, (fun k v h => nomatch h), Nat.le_refl 0, Nat.le_refl 0, Nat.le_refl 0⟩
theorem G3.sm (g : G3 D kvs n m) (h : m ≤ 3000) : Sm D := by
  have h1 := g.dp
  have h2 := g.s2
  have h3 := g.s1
  rcases g.sh with e | ⟨x, e⟩
  · refine ⟨by omega, by rw [e]; simp, fun x hx => ?_, by omega⟩
    rw [e] at hx; simp at hx
  · refine ⟨by omega, by rw [e]; simp, fun y hy => ?_, by omega⟩
    rw [e] at hy
    simp at hy
    subst hy
    simp
theorem G3.up (g : G3 D kvs n m) {m' : Nat} (h : m ≤ m') : G3 D kvs n m' :=
  ⟨g.fl, g.wf, g.dp, g.sh, g.ro, g.vl, g.ks, g.iv, Nat.le_trans g.s1 h, Nat.le_trans g.s2 h, Nat.le_trans g.s3 h⟩
theorem G3.seen (g : G3 D kvs n m) {r : Row} (h : r ∈ D.rows) : seesD D r = true := by
  unfold seesD
  rcases g.ro r h with e | ⟨e, es⟩
  · rw [if_neg (by rw [e]; exact kept_open), decide_eq_true e]
  · rw [if_pos e, es]
    simp
theorem G3.found (g : G3 D kvs n m) (z : Str) : foundL D z = D.rows.filter fun r => decide (r.rcd = z) := by
  unfold foundL
  refine List.filter_congr fun r hr => ?_
  unfold hitR
  rw [g.seen hr, Bool.and_true]
theorem G3.last (g : G3 D kvs n m) (z : Str) : (foundL D z).getLast?.map (·.val) = valV kvs (.inr z) := by
  rw [g.found, ← g.vl]; rfl
theorem G3.has (g : G3 D kvs n m) {z : Str} (h : IsWord z) : hasV D (.str z) = (valV kvs (.inr z)).isSome := by
  show (wordS z && !(foundL D z).isEmpty) = _
  rw [h.ok, ← g.last z]
  rcases List.eq_nil_or_concat (foundL D z) with e | ⟨l, r, e⟩
  · rw [e]; rfl
  · rw [e, List.concat_eq_append, List.getLast?_append]; simp
theorem G3.get (g : G3 D kvs n m) {z : Str} (h : IsWord z) : getV D (.str z) = (match valV kvs (.inr z) with | some v => .inl v | none => .inr (.norecord z)) := by
  unfold getV
  dsimp only
  rw [if_pos h.ok, ← g.last z]
  cases (foundL D z).getLast? <;> rfl
theorem hasV_no {u : V} (h : wordB u = false) : hasV D u = false := by
  cases u with
  | str z => show (wordS z && _) = false; rw [show wordS z = false from h]; rfl
  | _ => rfl
theorem getV_no {u : V} (h : wordB u = false) : getV D u = .inr (.badword u) := by
  cases u with
  | str z => exact if_neg (by rw [show wordS z = false from h]; simp)
  | _ => rfl
theorem G3.enter (g : G3 D kvs n m) {w : Str} (h : w = "join" ∨ w = "either") : ∃ D', enterV D (.str w) = (D', none) ∧ G3 D' kvs (n + 1) (m + 1) := by
  have hw : w ∈ modesS := by rcases h with rfl | rfl <;> decide +kernel
  rw [enterV_mode hw]
  have up : ∀ {D' : Db}, D'.floor = D.floor → Wf D'.entered D'.stack → D'.entered.length = n + 1 → (D'.stack = [none] ∨ ∃ x, D'.stack = [some ⟨x, [none]⟩, none]) → (∀ r ∈ D'.rows, r.fate = "kept" ∨ (r.fate = "open" ∧ D'.stack = [some ⟨r.holder, [none]⟩, none])) → D'.rows = D.rows → G3 D' kvs (n + 1) (m + 1) := fun {D'} h1 h2 h3 h4 h5 h6 =>
    ⟨h1.trans g.fl, h2, h3, h4, h5, fun z => by rw [h6]; exact g.vl z, g.ks, g.iv, by rw [h6]; have := g.s1; omega, by have := g.s2; omega, by have := g.s3; omega⟩
  have dp := g.dp
  unfold enterD
  rcases g.sh with es | ⟨x, es⟩
  · rw [es]
    dsimp only
    have ro : ∀ r ∈ D.rows, r.fate = "kept" := fun r hr => by
      rcases g.ro r hr with e | ⟨_, e⟩
      · exact e
      · rw [es] at e; cases e
    have wf := g.wf
    rw [es] at wf
    unfold aloneD
    rcases h with rfl | rfl
    · rw [if_neg (by decide +kernel), if_neg (by decide +kernel)]
      refine ⟨_, rfl, up rfl ?_ ?_ ?_ ?_ rfl⟩
      · show Wf ("base" :: D.entered) (some ⟨D.opened, [none]⟩ :: D.stack)
        rw [es]; exact .base wf
      · show D.entered.length + 1 = n + 1
        omega
      · refine .inr ⟨D.opened, ?_⟩
        show some ⟨D.opened, [none]⟩ :: D.stack = _
        rw [es]
      · exact fun r hr => .inl (ro r hr)
    · rw [if_neg (by decide +kernel), if_pos (by decide +kernel)]
      refine ⟨_, rfl, up rfl ?_ ?_ (.inl es) ?_ rfl⟩
      · show Wf ("plain" :: D.entered) D.stack
        rw [es]; exact .plain wf
      · show D.entered.length + 1 = n + 1
        omega
      · exact fun r hr => .inl (ro r hr)
  · rw [es]
    dsimp only
    have wf := g.wf
    rw [es] at wf
    unfold lvlD
    have e1 : ¬ inV (.str w) [.str "never", .str "alone"] = true := by rcases h with rfl | rfl <;> decide +kernel
    have e2 : ¬ decide (V.str w = V.str "inner") = true := by rcases h with rfl | rfl <;> decide +kernel
    have e3 : ¬ decide (V.str w = V.str "apart") = true := by rcases h with rfl | rfl <;> decide +kernel
    have e4 : ¬ decide (V.str w = V.str "outside") = true := by rcases h with rfl | rfl <;> decide +kernel
    rw [if_neg e1, if_neg e2, if_neg e3, if_neg e4]
    refine ⟨_, rfl, up rfl ?_ ?_ (.inr ⟨x, es⟩) g.ro rfl⟩
    · show Wf ("joined" :: D.entered) D.stack
      rw [es]; exact .joined wf
    · show D.entered.length + 1 = n + 1
      omega
theorem last_map {f : Row → Row} (h1 : ∀ r, (f r).rcd = r.rcd) (h2 : ∀ r, (f r).val = r.val) (rows : List Row) (z : Str) : lastV (rows.map f) z = lastV rows z := by
  unfold lastV
  rw [List.filter_map, List.getLast?_map, Option.map_map]
  have e1 : ((fun r : Row => decide (r.rcd = z)) ∘ f) = fun r => decide (r.rcd = z) := by
    funext r
    show decide ((f r).rcd = z) = _
    rw [h1]
  have e2 : ((fun r : Row => r.val) ∘ f) = fun r => r.val := by
    funext r
    exact h2 r
  rw [e1, e2]
theorem G3.leave (g : G3 D kvs (n + 1) m) : ∃ D', leaveV D .non true = (D', none) ∧ G3 D' kvs n m := by
  show ∃ D', leaveD D none true = (D', none) ∧ _
  have dp := g.dp
  unfold leaveD
  rw [if_neg (by rw [g.fl]; omega)]
  unfold leaveW
  have wf := g.wf
  have s2 := g.s2
  cases he : D.entered with
  | nil => rw [he] at dp; cases dp
  | cons e es =>
    dsimp only
    rw [he] at wf dp
    have dp : es.length = n := Nat.succ.inj dp
    have up : ∀ {D' : Db}, D'.floor = D.floor → Wf D'.entered D'.stack → D'.entered = es → (D'.stack = [none] ∨ ∃ x, D'.stack = [some ⟨x, [none]⟩, none]) → (∀ r ∈ D'.rows, r.fate = "kept" ∨ (r.fate = "open" ∧ D'.stack = [some ⟨r.holder, [none]⟩, none])) → (∀ z, lastV D'.rows z = lastV D.rows z) → D'.rows.length = D.rows.length → G3 D' kvs n m := fun {D'} h1 h2 h3 h4 h5 h6 h7 =>
      ⟨h1.trans g.fl, h2, by rw [h3]; exact dp, h4, h5, fun z => (h6 z).trans (g.vl z), g.ks, g.iv, by rw [h7]; exact g.s1, by omega, g.s3⟩
    rcases g.sh with hs | ⟨x, hs⟩
    · rw [hs] at wf
      cases wf with
      | plain h =>
        rw [if_neg (by decide +kernel), if_neg (by decide +kernel), if_neg (by decide +kernel), if_neg (by decide +kernel)]
        refine ⟨_, rfl, up rfl ?_ rfl (.inl hs) g.ro (fun _ => rfl) rfl⟩
        show Wf es D.stack
        rw [hs]; exact h
    · rw [hs] at wf
      cases wf with
      | joined h =>
        rw [if_neg (by decide +kernel), if_pos rfl]
        refine ⟨_, rfl, up rfl ?_ rfl (.inr ⟨x, hs⟩) g.ro (fun _ => rfl) rfl⟩
        show Wf es D.stack
        rw [hs]; exact h
      | base h =>
        rw [if_neg (by decide +kernel), if_neg (by decide +kernel), if_neg (by decide +kernel), if_pos rfl]
        unfold endTD
        dsimp only
        rw [hs]
        dsimp only
        refine ⟨_, rfl, up rfl h rfl (.inl rfl) ?_ ?_ (by rw [List.length_map])⟩
        · intro r hr
          obtain ⟨r0, h0, rfl⟩ := List.mem_map.mp hr
          left
          unfold endTRow
          rcases g.ro r0 h0 with e | ⟨e, e2⟩
          · rw [if_neg (fun q => kept_open (e.symm.trans q.1))]
            exact e
          · rw [hs] at e2
            have e3 : x = r0.holder := by
              injection e2 with e2
              injection e2 with e2
              injection e2
            rw [if_pos ⟨e, e3.symm⟩]
            rfl
        · intro z
          refine last_map (fun r => ?_) (fun r => ?_) _ z
          · unfold endTRow
            split <;> rfl
          · unfold endTRow
            split <;> rfl
theorem putK_keys {k : Key} {v : V} : (putK kvs k v).map (·.1) = if (valV kvs k).isSome = true then kvs.map (·.1) else kvs.map (·.1) ++ [k] := by
  unfold putK
  rw [valV_any]
  cases valV kvs k with
  | none =>
    rw [if_neg (by simp), if_neg (by simp), List.map_append]; rfl
  | some y =>
    rw [if_pos (show (some y).isSome = true from rfl), if_pos (show (some y).isSome = true from rfl), List.map_map]
    refine List.map_congr_left fun kv _ => ?_
    show (if kv.1 = k then (kv.1, v) else kv).1 = kv.1
    split <;> rfl
theorem G3.write (g : G3 D kvs n m) {z : Str} {i : Int} (h : IsWord z) : ∃ D', setV D (.str z) (.int i) = (D', none) ∧ G3 D' (putK kvs (.inr z) (.int i)) n (m + 1) := by
  rw [setV_word h]
  have ho : z ∉ outerL D := fun q => by
    unfold outerL at q
    rw [sortT_mem] at q
    obtain ⟨r, _, _, q, _⟩ := held_mem.mp q
    rcases g.sh with hs | ⟨x, hs⟩
    · rw [hs] at q; simp [numsR] at q
    · rw [hs] at q; simp [numsR] at q
  have la : ∀ (r : Row), r.rcd = z → r.val = .int i → ∀ y, lastV (D.rows ++ [r]) y = valV (putK kvs (.inr z) (.int i)) (.inr y) := fun r h1 h2 y => by
    rw [valV_put]
    have e := g.vl y
    unfold lastV at e ⊢
    rw [List.filter_append, List.filter_cons, List.filter_nil, h1]
    by_cases hy : z = y
    · subst hy
      rw [if_pos (by simp), if_pos rfl, List.getLast?_append]
      simp [h2]
    · rw [if_neg (by simp [hy]), if_neg (fun q => hy (Sum.inr.inj q).symm), List.append_nil]
      exact e
  have ks : ∃ xs : List Str, (putK kvs (.inr z) (.int i)).map (·.1) = xs.map Sum.inr ∧ ∀ z ∈ xs, IsWord z := by
    obtain ⟨xs, e, hx⟩ := g.ks
    rw [putK_keys]
    split
    · exact ⟨xs, e, hx⟩
    · refine ⟨xs ++ [z], by rw [e, List.map_append]; rfl, fun y hy => ?_⟩
      rcases List.mem_append.mp hy with hy | hy
      · exact hx y hy
      · exact List.mem_singleton.mp hy ▸ h
  have iv : ∀ k v, valV (putK kvs (.inr z) (.int i)) k = some v → ∃ i, v = .int i := fun k v hv => by
    rw [valV_put] at hv
    split at hv
    · cases hv
      exact ⟨i, rfl⟩
    · exact g.iv k v hv
  have s3 := length_putK kvs (.inr z) (.int i)
  have s3' := g.s3
  have s1 := g.s1
  have s2 := g.s2
  unfold writeD
  rcases g.sh with hs | ⟨x, hs⟩
  · rw [hs]
    dsimp only
    rw [if_neg ho]
    refine ⟨_, rfl, g.fl, g.wf, g.dp, g.sh, fun r hr => ?_, la _ rfl rfl, ks, iv, ?_, by omega, by omega⟩
    · rcases List.mem_append.mp hr with hr | hr
      · exact g.ro r hr
      · cases List.mem_singleton.mp hr
        exact .inl rfl
    · show (D.rows ++ [_]).length ≤ m + 1
      rw [List.length_append, List.length_singleton]; omega
  · rw [hs]
    dsimp only
    rw [if_neg ho]
    refine ⟨_, rfl, g.fl, g.wf, g.dp, g.sh, fun r hr => ?_, la _ rfl rfl, ks, iv, ?_, by omega, by omega⟩
    · rcases List.mem_append.mp hr with hr | hr
      · exact g.ro r hr
      · cases List.mem_singleton.mp hr
        exact .inr ⟨rfl, hs⟩
    · show (D.rows ++ [_]).length ≤ m + 1
      rw [List.length_append, List.length_singleton]; omega
end
/-! ### what is seen -/
theorem no_NoRecord_record (T : Txt K mg a d) : PySem.W.findIn K (.ref a.NoRecord) "record" = some none := T.e_NoRecord.noF ("record", .inl 0) (by simp [ef_NoRecord])
theorem no_BadWord_word (T : Txt K mg a d) : PySem.W.findIn K (.ref a.BadWord) "word" = some none := T.e_BadWord.noF ("word", .inl 0) (by simp [ef_BadWord])
def optL : Option V → List V
  | none => []
  | some v => [v]
def spSeen (a : Ad) : Sp := fun vs H Q _ => ∃ L D kvs n m z q, vs = [.ref L.db, .str z, .ref q] ∧ DB a H L D ∧ G3 D kvs n m ∧ m ≤ 3000 ∧ IsWord z ∧ H q = some (.lst (optL (valV kvs (.inr z)))) ∧ ∀ H', Same H H' → Q (.bl true) H'
theorem ok_law_seen (T : Txt K mg a d) : FnOk P w K mg base CX0 4 a.law_seen d.law_seen ["_law_db", "_law_record", "_law_due"] (spSeen a) := by
  have G_DatabaseU_containsU : FnOk P w K mg base CX0 2 a.DatabaseU_containsU d.DatabaseU_containsU ["self", "record"] (spHas a) := ok_DatabaseU_containsU T
  have G_DatabaseU_getitemU : FnOk P w K mg base (L2.CX P w) 2 a.DatabaseU_getitemU d.DatabaseU_getitemU ["self", "record"] (spGet a) := ok_DatabaseU_getitemU T
  refine T.law_seen.ok sc_law_seen (fun vs H Q E h => ?_) (fun cdv A outer s H vs Q E hr h => ?_)
  · obtain ⟨L, D, kvs, n, m, z, q, rfl, _⟩ := h
    rfl
  · obtain ⟨L, D, kvs, n, m, z, q, rfl, hD, g, hm, hz, hq, k⟩ := h
    have hx := hD.db
    refine ⟨_, (pss_cons (ps_if (pt_cmpR op_ne (pe_cmpR (op_inO T.m_DatabaseU_containsU G_DatabaseU_containsU (hr.mono (by decide)) T.b_DatabaseU_containsU) (pv 1) (pv 0) (by rfl)) (pe_cmpR (op_neD hr.units) (pv 2) (pe_lst pa_nil) (nomark _)) (nomark _)) (pss_one (ps_ret pe_bl)) pss_nil)
  (pss_cons (ps_tryA rfl rfl sc_law_seen.nd takes0 (fun W pn xe tk po => (pss_one (ps_set (i := 3) sc_law_seen.nd rfl (Or.inl rfl) (pe_getO (pv 0) (pv 1) T.m_DatabaseU_getitemU T.fi_DatabaseU_getitemU G_DatabaseU_getitemU (hr.mono (by decide)) T.b_DatabaseU_getitemU (fun σ => passAt tk σ))))) (.consA (i := 4) (.intro (by rfl) (And.intro (by decide) (Or.inl T.g_NoRecord))) rfl rfl (fun _ _ _ _ _ hz hf => (pss_one (ps_ret (pe_and (pe_cmpR (op_eqDK (K := K) rfl hr.units) (pv 2) (pe_lst pa_nil) (nomark _)) (pe_one (pe_cmpR op_eq (pe_xf (xfc T.e_NoRecord) (no_NoRecord_record T) hz hf (pv 4)) (pv 1) (nomark _))))))) .nil))
  (pss_one (ps_ret (pe_and (pe_cmpR (op_eqD hr.units) (pv 2) (pe_lst (pa_cons (pv 3) pa_nil)) (nomark _)) (pe_and (pe_callB call_isi (by rfl) T.n_isinstance (by decide +kernel) (pa_cons (pv 3) (pa_cons (pe_bltn (v := .ty "int") (u := .type "int") (by rfl) T.n_int (by decide +kernel) rfl) pa_nil))) (pe_one (pe_not (pe_callB call_isi (by rfl) T.n_isinstance (by decide +kernel) (pa_cons (pv 3) (pa_cons (pe_bltn (v := .ty "bool") (u := .type "bool") (by rfl) T.n_bool (by decide +kernel) rfl) pa_nil))))))))))), ?_⟩
    dsimp only [cxOf]
    walk_at "rd"
    refine ⟨L, D, .str z, rfl, word_thing hz, hD, g.sm hm, fun H1 s1 => ?_⟩
    rw [g.has hz]
    walk_at "rd"
    have hq1 := s1 _ _ hq
    have hD1 : DB a H1 L D := hD.keep fun b u _ e => s1 b u e
    have gv := g.get hz
    have gi := g.iv (.inr z)
    cases ev : valV kvs (.inr z) with
    | none =>
      rw [ev] at hq1 gv
      intro p1 hp1
      have hq2 := upd_old (o := .lst []) hq1 hp1
      have hD2 : DB a (upd H1 p1 (.lst [])) L D := hD1.new hp1
      refine ⟨.list [], .list [], .lst (SqL.of hq2) .nil, .lst (SqL.of upd_same) .nil, rfl, rfl, ?_⟩
      have s2 : Same H (upd H1 p1 (.lst [])) := s1.new hp1
      have hx2 := hD2.db
      generalize upd H1 p1 (.lst []) = H2 at hq2 hD2 s2 hx2 ⊢
      walk_at "rd"
      refine ⟨L, D, .str z, rfl, word_thing hz, hD2, g.sm hm, fun H3 s3 => ?_⟩
      rw [gv]
      intro dd gd
      refine ⟨true, T.e_NoRecord.te, fun _ x hx => ?_, (fun z => by cases z)⟩
      unfold wCl
      have hq3 := upd_old (o := .xd (errF [V.str z] ef_NoRecord [])) (s3 _ _ hq2) gd
      walk_at "rd"
      intro p4 hp4
      refine ⟨.list [], .list [], .lst (SqL.of (upd_old hq3 hp4)) .nil, .lst (SqL.of upd_same) .nil, rfl, rfl, ?_⟩
      have s4 := ((s2.trans s3).new (o := .xd (errF [V.str z] ef_NoRecord [])) gd).new (o := .lst []) hp4
      walk_at "rd"
      have e : decide (fldV [V.str z] (Sum.inl 0) = V.str z) = true := decide_eq_true rfl
      show Q (V.bl (decide (fldV [V.str z] (Sum.inl 0) = V.str z))) _
      rw [e]; exact k _ s4
    | some v =>
      obtain ⟨i, rfl⟩ := gi v ev
      rw [ev] at hq1 gv
      intro p1 hp1
      have hq2 := upd_old (o := .lst []) hq1 hp1
      have hD2 : DB a (upd H1 p1 (.lst [])) L D := hD1.new hp1
      refine ⟨.list [.int i], .list [], .lst (SqL.of hq2) (.cons (.int i) .nil), .lst (SqL.of upd_same) .nil, rfl, rfl, ?_⟩
      have s2 : Same H (upd H1 p1 (.lst [])) := s1.new hp1
      have hx2 := hD2.db
      generalize upd H1 p1 (.lst []) = H2 at hq2 hD2 s2 hx2 ⊢
      walk_at "rd"
      refine ⟨L, D, .str z, rfl, word_thing hz, hD2, g.sm hm, fun H3 s3 => ?_⟩
      rw [gv]
      have hq3 := s3 _ _ hq2
      walk_at "rd"
      intro p4 hp4
      refine ⟨.list [.int i], .list [.int i], .lst (SqL.of (upd_old hq3 hp4)) (.cons (.int i) .nil), .lst (SqL.of upd_same) (.cons (.int i) .nil), rfl, rfl, ?_⟩
      have s4 := (s2.trans s3).new (o := .lst [.int i]) hp4
      rw [SeqAt.eqv_refl _ (SeqAt.canLay_of_shaped rfl)]
      walk_at "rd"
      refine ⟨.ty _, .base (.int i), kit_ty (show kitB "int" "int" = some true by decide +kernel), ?_⟩
      walk_at "rd"
      refine ⟨.ty _, .base (.int i), kit_ty (show kitB "int" "bool" = some false by decide +kernel), ?_⟩
      walk_at "rd"
      exact k _ s4
/-- things that are no words -/
def spOdd (K : PySem.W.Frag) (a : Ad) : Sp := fun vs H Q _ => ∃ L D kvs n m u, vs = [.ref L.db, u] ∧ DB a H L D ∧ G3 D kvs n m ∧ m ≤ 3000 ∧ wordB u = false ∧ Thing H u ∧ (∀ H', Same H H' → ∃ dt, Dp K H' u dt ∧ SeqAt.shaped dt = true) ∧ ∀ H', Same H H' → Q (.bl true) H'
theorem ok_law_odd (T : Txt K mg a d) : FnOk P w K mg base CX0 4 a.law_odd d.law_odd ["_law_db", "_law_thing"] (spOdd K a) := by
  have G_DatabaseU_containsU : FnOk P w K mg base CX0 2 a.DatabaseU_containsU d.DatabaseU_containsU ["self", "record"] (spHas a) := ok_DatabaseU_containsU T
  have G_DatabaseU_getitemU : FnOk P w K mg base (L2.CX P w) 2 a.DatabaseU_getitemU d.DatabaseU_getitemU ["self", "record"] (spGet a) := ok_DatabaseU_getitemU T
  refine T.law_odd.ok sc_law_odd (fun vs H Q E h => ?_) (fun cdv A outer s H vs Q E hr h => ?_)
  · obtain ⟨L, D, kvs, n, m, u, rfl, _⟩ := h
    rfl
  · obtain ⟨L, D, kvs, n, m, u, rfl, hD, g, hm, hu, tu, hdt, k⟩ := h
    have hx := hD.db
    refine ⟨_, (pss_cons (ps_if (pt_cmpR (op_inO T.m_DatabaseU_containsU G_DatabaseU_containsU (hr.mono (by decide)) T.b_DatabaseU_containsU) (pv 1) (pv 0) (by rfl)) (pss_one (ps_ret pe_bl)) pss_nil)
  (pss_cons (ps_tryA rfl rfl sc_law_odd.nd takes0 (fun W pn xe tk po => (pss_one (ps_set (i := 2) sc_law_odd.nd rfl (Or.inl rfl) (pe_getO (pv 0) (pv 1) T.m_DatabaseU_getitemU T.fi_DatabaseU_getitemU G_DatabaseU_getitemU (hr.mono (by decide)) T.b_DatabaseU_getitemU (fun σ => passAt tk σ))))) (.consA (i := 3) (.intro (by rfl) (And.intro (by decide) (Or.inl T.g_BadWord))) rfl rfl (fun _ _ _ _ _ hz hf => (pss_one (ps_ret (pe_cmpR (op_eqDK (K := K) rfl hr.units) (pe_xf (xfc T.e_BadWord) (no_BadWord_word T) hz hf (pv 3)) (pv 1) (nomark _))))) .nil))
  (pss_one (ps_ret (pe_cmpR (op_neD hr.units) (pv 2) (pv 2) (nomark _)))))), ?_⟩
    dsimp only [cxOf]
    walk_at "rd"
    refine ⟨L, D, u, rfl, tu, hD, g.sm hm, fun H1 s1 => ?_⟩
    rw [hasV_no hu]
    have hD1 : DB a H1 L D := hD.keep fun b u _ e => s1 b u e
    have hx1 := hD1.db
    walk_at "rd"
    refine ⟨L, D, u, rfl, tu.same s1, hD1, g.sm hm, fun H3 s3 => ?_⟩
    rw [getV_no hu]
    intro dd gd
    refine ⟨true, T.e_BadWord.te, fun _ x hx => ?_, (fun z => by cases z)⟩
    unfold wCl
    have s4 := (s1.trans s3).new (o := .xd (errF [u] ef_BadWord [])) gd
    obtain ⟨dt, h1, h2⟩ := hdt _ s4
    walk_at "rd"
    refine ⟨dt, dt, h1, h1, h2, h2, ?_⟩
    rw [SeqAt.eqv_refl _ (SeqAt.canLay_of_shaped h2)]
    exact k _ s4
/-! ### a deed -/
def spDeed (a : Ad) : Sp := fun vs H Q _ => ∃ H0 ds cs ip jd iv pp o L D vd kvs n m c, vs = [.ref pp, .ref L.db, .ref vd, .int (n : Nat)] ∧ Wd a H0 H ds cs ∧ cs[ip]? = some (pp, o) ∧ ds[jd]? = some (L, D) ∧ cs[iv]? = some (vd, .dK kvs) ∧ ip ≠ iv ∧ PoolO o c ∧ c < 2 ^ 30 ∧ G3 D kvs n m ∧ m ≤ 2000 ∧
  ∀ H' L' D' o' kvs' n', Wd a H0 H' (ds.set jd (L', D')) ((cs.set ip (pp, o')).set iv (vd, .dK kvs')) → L'.db = L.db → PoolO o' (c + 30) → G3 D' kvs' n' (m + 1) → Q (.int (n' : Nat)) H'
theorem set_get {α : Type} {l : List α} {i : Nat} {x : α} (h : l[i]? = some x) : l.set i x = l := by
  obtain ⟨h1, h2⟩ := List.getElem?_eq_some_iff.mp h
  rw [← h2]
  exact List.set_getElem_self h1
theorem get_ne {α : Type} {l : List α} {i j : Nat} {x : α} (h : i ≠ j) : (l.set i x)[j]? = l[j]? := List.getElem?_set_ne h
theorem get_eq {α : Type} {l : List α} {i : Nat} {x y : α} (h : l[i]? = some y) : (l.set i x)[i]? = some x := by
  obtain ⟨h1, _⟩ := List.getElem?_eq_some_iff.mp h
  rw [List.getElem?_set_self h1]
theorem at_str {xs : List Str} {r : Int} (h0 : 0 ≤ r) (h1 : r < ((xs.map V.str).length : Int)) : ∃ z, atI (xs.map V.str) r = some (.str z) ∧ z ∈ xs := by
  obtain ⟨n, rfl⟩ : ∃ n : Nat, r = n := ⟨r.toNat, by omega⟩
  have hi : n < xs.length := by rw [List.length_map] at h1; omega
  exact ⟨xs[n], atI_nat (by rw [List.getElem?_map, List.getElem?_eq_getElem hi]; rfl), List.getElem_mem hi⟩
theorem Wd.draw {a : Ad} {H0 H H' : Hp} {ds : List (Lay × Db)} {cs : List (Addr × HO)} {ip : Nat} {pp : Addr} {o o' : HO} {x : Addr × HO} (h : Wd a H0 H ds (cs.set ip (pp, o))) (ep : cs[ip]? = some x) (k : Kp (fun b => b = pp) H H') (e' : H' pp = some o') (ni : ∀ C dx fs, o' ≠ .ins C dx fs) : Wd a H0 H' ds (cs.set ip (pp, o')) := by
  have q := h.putC (get_eq ep) k e' ni
  rw [List.set_set] at q
  exact q
theorem ok_law_deed (T : Txt K mg a d) : FnOk P w K mg base CX0 6 a.law_deed d.law_deed ["_law_pool_here", "_law_db", "_law_values", "_law_depth"] (spDeed a) := by
  have G_law_draw : FnOk P w K mg base CX0 1 a.law_draw d.law_draw ["_law_pool_here", "_law_many"] spDraw := ok_law_draw T
  have G_law_word : FnOk P w K mg base CX0 2 a.law_word d.law_word ["_law_pool_here"] spWord := ok_law_word T
  have G_Database_enter : FnOk P w K mg base (L2.CX P w) 5 a.Database_enter d.Database_enter ["self", "mode"] (spEnter a) := ok_Database_enter T
  have G_Database_leave : FnOk P w K mg base (L2.CX P w) 3 a.Database_leave d.Database_leave ["self", "error", "commits"] (spLeave a) := ok_Database_leave T
  have G_DatabaseU_setitemU : FnOk P w K mg base (L2.CX P w) 5 a.DatabaseU_setitemU d.DatabaseU_setitemU ["self", "record", "value"] (spSet a) := ok_DatabaseU_setitemU T
  obtain ⟨_, vl_leave, bl_leave⟩ := bd_leave0 T
  refine T.law_deed.ok sc_law_deed (fun vs H Q E h => ?_) (fun cdv A outer s H vs Q E hr h => ?_)
  · obtain ⟨H0, ds, cs, ip, jd, iv, pp, o, L, D, vd, kvs, n, m, c, rfl, _⟩ := h
    rfl
  · obtain ⟨H0, ds, cs, ip, jd, iv, pp, o, L, D, vd, kvs, n, m, c, rfl, W, ep, ed, ev, npv, ho, hc, g, hm, k⟩ := h
    refine ⟨_, (pss_cons (ps_set (i := 4) sc_law_deed.nd rfl (Or.inl rfl) (pe_call G_law_draw (hr.mono (by decide)) (by rfl) T.g_law_draw T.law_draw.kp T.b_law_draw .nil pass0 (pa_cons (pv 0) (pa_cons pe_int pa_nil))))
  (pss_cons (ps_if (pt_cmpR op_eq (pv 4) pe_int (nomark _)) (pss_cons (ps_expr (pe_meth (pv 1) T.k_Database T.m_Database_enter G_Database_enter (hr.mono (by decide)) T.b_Database_enter .nil passL (pa_cons (pe_ix ix_list (pe_lst (pa_cons pe_str (pa_cons pe_str pa_nil))) (pe_call G_law_draw (hr.mono (by decide)) (by rfl) T.g_law_draw T.law_draw.kp T.b_law_draw .nil pass0 (pa_cons (pv 0) (pa_cons pe_int pa_nil))) (fun _ _ => rfl)) pa_nil)))
  (pss_one (ps_ret (pe_op op_add (pv 3) pe_int)))) pss_nil)
  (pss_cons (ps_if (PW.pt (pw_and (pt_cmpR op_eq (pv 4) pe_int (nomark _)) (pw_and1 (pt_cmpR op_gt (pv 3) pe_int (nomark _))))) (pss_cons (ps_expr (pe_meth0 (pv 1) T.k_Database T.m_Database_leave G_Database_leave (hr.mono (by decide)) bl_leave vl_leave passL))
  (pss_one (ps_ret (pe_op op_sub (pv 3) pe_int)))) pss_nil)
  (pss_cons (ps_set (i := 5) sc_law_deed.nd rfl (Or.inl rfl) (pe_callB (cr_sortDK rfl) (by rfl) T.n_sorted (by decide +kernel) (pa_cons (pv 2) pa_nil)))
  (pss_cons (ps_set (i := 6) sc_law_deed.nd rfl (Or.inl rfl) (pe_call G_law_word (hr.mono (by decide)) (by rfl) T.g_law_word T.law_word.kp T.b_law_word .nil pass0 (pa_cons (pv 0) pa_nil)))
  (pss_cons (ps_if (PW.pt (pw_and (pt_cmpR (op_neE hr.units) (pv 5) (pe_lst pa_nil) (nomark _)) (pw_and1 (pt_cmpR op_gt (pv 4) pe_int (nomark _))))) (pss_one (ps_set (i := 6) sc_law_deed.nd rfl (Or.inl rfl) (pe_ix ix_list (pv 5) (pe_call G_law_draw (hr.mono (by decide)) (by rfl) T.g_law_draw T.law_draw.kp T.b_law_draw .nil pass0 (pa_cons (pv 0) (pa_cons (pe_callB call_len_seq (by rfl) T.n_len PySem.boot_len (pa_cons (pv 5) pa_nil)) pa_nil))) (fun _ _ => rfl)))) pss_nil)
  (pss_cons (ps_set (i := 7) sc_law_deed.nd rfl (Or.inl rfl) (pe_op op_mul (pe_call G_law_draw (hr.mono (by decide)) (by rfl) T.g_law_draw T.law_draw.kp T.b_law_draw .nil pass0 (pa_cons (pv 0) (pa_cons (pe_ix ix_list (pe_lst (pa_cons pe_int (pa_cons (pe_op op_pow pe_int pe_int) pa_nil))) (pe_call G_law_draw (hr.mono (by decide)) (by rfl) T.g_law_draw T.law_draw.kp T.b_law_draw .nil pass0 (pa_cons (pv 0) (pa_cons pe_int pa_nil))) (fun _ _ => rfl)) pa_nil))) (pe_ix ix_list (pe_lst (pa_cons pe_int (pa_cons (pe_un un_neg pe_int) pa_nil))) (pe_call G_law_draw (hr.mono (by decide)) (by rfl) T.g_law_draw T.law_draw.kp T.b_law_draw .nil pass0 (pa_cons (pv 0) (pa_cons pe_int pa_nil))) (fun _ _ => rfl))))
  (pss_cons (ps_asg (pv 7) (pg_setO (pv 1) (pv 6) T.m_DatabaseU_setitemU T.ns_Database G_DatabaseU_setitemU (hr.mono (by decide)) T.b_DatabaseU_setitemU (fun _ => passL0)))
  (pss_cons (ps_dput (hu_of hr) (pv 2) (pv 6) (pv 7) rfl)
  (pss_one (ps_ret (pv 3)))))))))))), ?_⟩
    dsimp only [cxOf]
    rw [← set_get ep] at W
    have e2 : ∀ y, (cs.set ip (pp, y))[iv]? = some (vd, .dK kvs) := fun y => by rw [get_ne npv]; exact ev
    have e1 : ∀ y, (cs.set ip (pp, y))[ip]? = some (pp, y) := fun y => get_eq ep
    have hp : H pp = some o := W.cl _ _ (e1 o)
    walk_at "rd"
    intro r1 o1 r10 r11 h1
    have W1 := W.draw ep (o' := o1) Kp.refl.set1 upd_same h1.ni
    generalize upd H pp o1 = H1 at W1 ⊢
    have hp1 : H1 pp = some o1 := W1.cl _ _ (e1 o1)
    have hv1 : H1 vd = some (.dK kvs) := W1.cl _ _ (e2 o1)
    have hD1 : DB a H1 L D := W1.db _ _ ed
    have hx1 := hD1.db
    walk_at "rd"
    refine ite2 (fun b1 => ?_) (fun b1 => ?_)
    · walk_at "rd"
      intro q2 hq2
      have W2 := W1.keep ((Same.refl _).new (o := .lst [.str "join", .str "either"]) hq2)
      have hq2' := upd_same (H := H1) (a := q2) (o := .lst [.str "join", .str "either"])
      have np : q2 ≠ pp := Ne.symm (ne_of_none hp1 hq2)
      generalize upd H1 q2 (.lst [V.str "join", V.str "either"]) = H2 at W2 hq2' ⊢
      have hp2 : H2 pp = some o1 := W2.cl _ _ (e1 o1)
      walk_at "rd"
      intro r3 o3 r30 r31 h3
      have W3 := W2.draw ep (o' := o3) Kp.refl.set1 upd_same h3.ni
      have hq3 := upd_oth (o := o3) np hq2'
      generalize upd H2 pp o3 = H3 at W3 hq3 ⊢
      obtain ⟨mo, hmo, am⟩ : ∃ mo : Str, (mo = "join" ∨ mo = "either") ∧ atI [V.str "join", V.str "either"] r3 = some (.str mo) := by
        rcases (by omega : r3 = 0 ∨ r3 = 1) with rfl | rfl
        · exact ⟨_, .inl rfl, rfl⟩
        · exact ⟨_, .inr rfl, rfl⟩
      have hD3 : DB a H3 L D := W3.db _ _ ed
      have hx3 := hD3.db
      obtain ⟨D', eD, g'⟩ := g.enter hmo
      walk_at "rd"
      refine ⟨L, D, .str mo, rfl, mode_thing (by rcases hmo with rfl | rfl <;> decide +kernel), hD3, g.sm (by omega), fun H4 L4 hD4 f4 => ?_⟩
      rw [eD] at hD4 ⊢
      have W4 := W3.putD ed hD4 f4
      rw [← set_get (e2 o3)] at W4
      walk_at "rd"
      exact k _ L4 D' o3 kvs (n + 1) W4 f4.db (h3.mono (by omega)) g'
    · walk_at "rd"
      refine ite2 (fun b2 => ?_) (fun b2 => ?_)
      focus
        walk_at "rd"
        refine ite2 (fun b3 => ?_) (fun b3 => ?_)
        focus
          have hn : (0 : Int) < n := of_decide_eq_true b3
          obtain ⟨n', rfl⟩ : ∃ n', n = n' + 1 := ⟨n - 1, by omega⟩
          obtain ⟨D', eD, g'⟩ := g.leave
          walk_at "rd"
          refine ⟨L, D, .non, true, rfl, .non, hD1, g.sm (by omega), by rw [g.fl]; exact Int.le_refl 0, g.wf, fun H4 L4 hD4 f4 => ?_⟩
          rw [eD] at hD4 ⊢
          have W4 := W1.putD ed hD4 f4
          rw [← set_get (e2 o1)] at W4
          walk_at "rd"
          have z := k _ L4 D' o1 kvs n' W4 f4.db (h1.mono (by omega)) (g'.up (by omega))
          show Q (V.int (((n' + 1 : Nat) : Int) - 1)) _
          rw [show (((n' + 1 : Nat) : Int) - 1) = (n' : Int) by omega]
          exact z
      all_goals
        obtain ⟨xs, exs, wxs⟩ := g.ks
        walk_at "rd"
        intro p2 hp2
        have W2 := W1.keep ((Same.refl _).new (o := .lst ((sortT xs).map V.str)) hp2)
        have hl2 := upd_same (H := H1) (a := p2) (o := .lst ((sortT xs).map V.str))
        have np : p2 ≠ pp := Ne.symm (ne_of_none hp1 hp2)
        have fp2 : H0 p2 = none := W1.same.free hp2
        generalize upd H1 p2 (.lst ((sortT xs).map V.str)) = H2 at W2 hl2 ⊢
        have hp2' : H2 pp = some o1 := W2.cl _ _ (e1 o1)
        walk_at "rd"
        intro w3 o3 H3 hw3 h3 hp3 kp3
        have W3 := W2.draw ep kp3 hp3 h3.ni
        have hl3 := kp3 _ _ hl2 np
        walk_at "rd"
        intro q4 hq4
        have W4 := W3.keep ((Same.refl _).new (o := .lst []) hq4)
        have hl4 := upd_old (o := .lst []) hl3 hq4
        have hq4' := upd_same (H := H3) (a := q4) (o := .lst [])
        generalize upd H3 q4 (.lst []) = H4 at W4 hl4 hq4' ⊢
        have hp4 : H4 pp = some o3 := W4.cl _ _ (e1 o3)
        refine ⟨_, _, _, rfl, rfl, SqL.of hl4, SqL.of hq4', ?_⟩
        walk_at "rd"
        refine ite2 (fun c1 => ?_) (fun c1 => ?_)
        focus
          walk_at "rd"
          refine ite2 (fun c2 => ?_) (fun c2 => ?_)
          focus
            have hne : 0 < ((sortT xs).map V.str).length := by
              cases e : (sortT xs).map V.str with
              | nil => rw [e] at c1; cases c1
              | cons _ _ => simp
            have hlen : ((sortT xs).map V.str).length ≤ 2000 := by
              have z1 := congrArg List.length exs
              have z2 := g.s3
              rw [List.length_map, List.length_map] at z1
              rw [List.length_map, sortT_len]; omega
            walk_at "rd"
            intro r5 o5 r50 r51 h5
            have W5 := W4.draw ep (o' := o5) Kp.refl.set1 upd_same h5.ni
            have hl5 := upd_oth (o := o5) np hl4
            generalize upd H4 pp o5 = H5 at W5 hl5 ⊢
            obtain ⟨z5, a5, m5⟩ := at_str r50 r51
            have hw5 := wxs z5 (sortT_mem.mp m5)
            have h5 := h5.mono (show _ ≤ c + 15 by omega)
            clear h3 hp3 W3 W4 hl3 hl4 hw3 kp3
            walk_at "rd"
          rotate_left
          focus
            have W5 := W4
            have h5 := h3.mono (show _ ≤ c + 15 by omega)
            have hw5 := hw3
            clear h3 W3 W4
            obtain ⟨z5, rfl⟩ : ∃ z, z = w3 := ⟨w3, rfl⟩
        rotate_left 2
        focus
          have W5 := W4
          have h5 := h3.mono (show _ ≤ c + 15 by omega)
          have hw5 := hw3
          clear h3 W3 W4
          obtain ⟨z5, rfl⟩ : ∃ z, z = w3 := ⟨w3, rfl⟩
        all_goals
          have hp5 := W5.cl _ _ (e1 _)
          dsimp only at hp5
          walk_at "rd"
          intro q6 hq6
          generalize hH6 : upd _ q6 _ = H6
          have W6 := hH6 ▸ W5.keep ((Same.refl _).new hq6)
          have hl6 : H6 q6 = some (.lst [V.int 7, V.int (10 ^ 30)]) := by rw [← hH6]; exact upd_same
          have np6 : q6 ≠ pp := Ne.symm (ne_of_none hp5 hq6)
          clear hH6
          have hp6 := W6.cl _ _ (e1 _)
          dsimp only at hp6
          walk_at "rd"
          intro r7 o7 r70 r71 h7
          have W7 := W6.draw ep (o' := o7) Kp.refl.set1 upd_same h7.ni
          have hl7 := upd_oth (o := o7) np6 hl6
          have hp7 := upd_same (H := H6) (a := pp) (o := o7)
          generalize upd H6 pp o7 = H7 at W7 hl7 hp7 ⊢
          obtain ⟨m7, am7, m70, m71⟩ : ∃ m7 : Int, atI [V.int 7, V.int (10 ^ 30)] r7 = some (.int m7) ∧ 0 < m7 ∧ m7 < 2 ^ 200 := by
            rcases (by omega : r7 = 0 ∨ r7 = 1) with rfl | rfl
            · exact ⟨_, rfl, by decide, by decide⟩
            · exact ⟨_, rfl, by decide, by decide⟩
          walk_at "rd"
          intro r8 o8 r80 r81 h8
          have W8 := W7.draw ep (o' := o8) Kp.refl.set1 upd_same h8.ni
          have hp8 := upd_same (H := H7) (a := pp) (o := o8)
          generalize upd H7 pp o8 = H8 at W8 hp8 ⊢
          walk_at "rd"
          intro q9 hq9
          generalize hH9 : upd _ q9 _ = H9
          have W9 := hH9 ▸ W8.keep ((Same.refl _).new hq9)
          have hl9 : H9 q9 = some (.lst [V.int 1, V.int (-1)]) := by rw [← hH9]; exact upd_same
          have np9 : q9 ≠ pp := Ne.symm (ne_of_none hp8 hq9)
          clear hH9
          have hp9 := W9.cl _ _ (e1 _)
          dsimp only at hp9
          walk_at "rd"
          intro r10 o10 r100 r101 h10
          have W10 := W9.draw ep (o' := o10) Kp.refl.set1 upd_same h10.ni
          have hl10 := upd_oth (o := o10) np9 hl9
          generalize upd H9 pp o10 = H10 at W10 hl10 ⊢
          obtain ⟨m10, am10, cm⟩ : ∃ m10 : Int, atI [V.int 1, V.int (-1)] r10 = some (.int m10) ∧ CMul r8 m10 := by
            rcases (by omega : r10 = 0 ∨ r10 = 1) with rfl | rfl
            · exact ⟨_, rfl, cmul_r (by decide)⟩
            · exact ⟨_, rfl, cmul_r (by decide)⟩
          walk_at "rd"
          have hD10 : DB a H10 L D := W10.db _ _ ed
          have hx10 := hD10.db
          generalize hval : (fun i j : Int => V.int (i * j)) r8 m10 = vv
          obtain ⟨val, rfl⟩ : ∃ val, vv = .int val := ⟨r8 * m10, hval.symm⟩
          clear hval
          walk_at "rd"
          obtain ⟨D', eD, g'⟩ := g.write (i := val) hw5
          refine ⟨L, D, _, _, rfl, word_thing hw5, hD10, g.sm (by omega), fun H11 L11 hD11 f11 => ?_⟩
          rw [eD] at hD11 ⊢
          have W11 := W10.putD ed hD11 f11
          have hv11 : H11 vd = some (.dK kvs) := W11.cl _ _ (e2 _)
          have hk : kvs.length < sizeLine := by rw [sizeLine_eq]; have := g.s3; omega
          have dp := DPut.k (k := Sum.inr z5) (v := .int val) hv11 hk
          have W12 := W11.setC (.dK (putK kvs (Sum.inr z5) (.int val))) (e2 _) dK_ni
          walk_at "rd"
          exact ⟨_, rfl, dp, _, rfl, k _ L11 D' o10 _ n W12 f11.db (h10.mono (by omega)) g'⟩
/-! ### the law -/
def spLaw (K : PySem.W.Frag) : Sp := fun vs H Q _ => ∃ (p : Addr) (ns : List Int), vs = [.ref p] ∧ SqL K H p (ns.map V.int) ∧ ns.length ≤ 63 ∧ ∀ H', Q (.bl true) H'
theorem ok_law (T : Txt K mg a d) : FnOk P w K mg base CX0 9 a.law d.law ["_law_script"] (spLaw K) := by
  have G_law_pool : FnOk P w K mg base CX0 1 a.law_pool d.law_pool ["_law_script", "_law_at"] (spPool K) := ok_law_pool T
  have G_law_draw : FnOk P w K mg base CX0 1 a.law_draw d.law_draw ["_law_pool_here", "_law_many"] spDraw := ok_law_draw T
  have G_law_word : FnOk P w K mg base CX0 2 a.law_word d.law_word ["_law_pool_here"] spWord := ok_law_word T
  have G_DatabaseU_initU : FnOk P w K mg base CX0 1 a.DatabaseU_initU d.DatabaseU_initU ["self"] (spDbI a) := ok_DatabaseU_initU T
  have G_law_deed : FnOk P w K mg base CX0 6 a.law_deed d.law_deed ["_law_pool_here", "_law_db", "_law_values", "_law_depth"] (spDeed a) := ok_law_deed T
  have G_law_seen : FnOk P w K mg base CX0 4 a.law_seen d.law_seen ["_law_db", "_law_record", "_law_due"] (spSeen a) := ok_law_seen T
  have G_law_odd : FnOk P w K mg base CX0 4 a.law_odd d.law_odd ["_law_db", "_law_thing"] (spOdd K a) := ok_law_odd T
  refine T.law.ok sc_law (fun vs H Q E h => ?_) (fun cdv A outer s H vs Q E hr h => ?_)
  · obtain ⟨p, ns, rfl, _⟩ := h
    rfl
  · obtain ⟨sa, ns, rfl, hS, hl, k⟩ := h
    refine ⟨_, (pss_cons (ps_par (i := 1) (j := 2) rfl sc_law.nd rfl rfl (by decide) rfl rfl (pa_cons (pe_make0 T.mk_Database G_DatabaseU_initU (hr.mono (by decide)) (by rfl) T.g_Database T.b_DatabaseU_initU .nil pass0) (pa_cons (pe_make0 T.mk_Database G_DatabaseU_initU (hr.mono (by decide)) (by rfl) T.g_Database T.b_DatabaseU_initU .nil pass0) pa_nil)) (by rfl))
  (pss_cons (ps_par (i := 3) (j := 4) rfl sc_law.nd rfl rfl (by decide) rfl rfl (pa_cons pe_dnewK (pa_cons pe_dnewK pa_nil)) (by rfl))
  (pss_cons (ps_set (i := 5) sc_law.nd rfl (Or.inl rfl) (pe_lst (pa_cons pe_int (pa_cons pe_int pa_nil))))
  (pss_cons (ps_for PassesOwn.never rfl (pi_range1 (by rfl) T.n_range (pa_cons (pe_callB (call_max2 rfl) (by rfl) T.n_max (by decide +kernel) (pa_cons pe_int (pa_cons (pe_callB (call_min2 rfl) (by rfl) T.n_min (by decide +kernel) (pa_cons pe_int (pa_cons (pe_callB call_len_seq (by rfl) T.n_len PySem.boot_len (pa_cons (pv 0) pa_nil)) pa_nil))) pa_nil))) pa_nil)) (pg_name (i := 6) sc_law.nd rfl (Or.inl rfl))
  (pss_cons (ps_set (i := 7) sc_law.nd rfl (Or.inl rfl) (pe_call G_law_pool (hr.mono (by decide)) (by rfl) T.g_law_pool T.law_pool.kp T.b_law_pool .nil pass0 (pa_cons (pv 0) (pa_cons (pv 6) pa_nil))))
  (pss_cons (ps_for PassesOwn.never rfl (pi_range1 (by rfl) T.n_range (pa_cons (pe_op op_add pe_int (pe_call G_law_draw (hr.mono (by decide)) (by rfl) T.g_law_draw T.law_draw.kp T.b_law_draw .nil pass0 (pa_cons (pv 7) (pa_cons pe_int pa_nil)))) pa_nil)) (pg_name (i := 8) sc_law.nd rfl (Or.inl rfl))
  (pss_cons (ps_if (pt_cmpR op_eq (pe_call G_law_draw (hr.mono (by decide)) (by rfl) T.g_law_draw T.law_draw.kp T.b_law_draw .nil pass0 (pa_cons (pv 7) (pa_cons pe_int pa_nil))) pe_int (nomark _)) (pss_one (ps_asg (pe_call G_law_deed (hr.mono (by decide)) (by rfl) T.g_law_deed T.law_deed.kp T.b_law_deed .nil pass0 (pa_cons (pv 7) (pa_cons (pv 1) (pa_cons (pv 3) (pa_cons (pe_ix ix_list (pv 5) pe_int (fun _ _ => rfl)) pa_nil))))) (pg_sub (pv 5) pe_int set_list))) (pss_one (ps_asg (pe_call G_law_deed (hr.mono (by decide)) (by rfl) T.g_law_deed T.law_deed.kp T.b_law_deed .nil pass0 (pa_cons (pv 7) (pa_cons (pv 2) (pa_cons (pv 4) (pa_cons (pe_ix ix_list (pv 5) pe_int (fun _ _ => rfl)) pa_nil))))) (pg_sub (pv 5) pe_int set_list))))
  (pss_cons (ps_set (i := 9) sc_law.nd rfl (Or.inl rfl) (pe_op op_cat (pe_op op_cat (pe_lst (pa_cons (pe_call G_law_word (hr.mono (by decide)) (by rfl) T.g_law_word T.law_word.kp T.b_law_word .nil pass0 (pa_cons (pv 7) pa_nil)) pa_nil)) (pe_callB (cr_sortDK rfl) (by rfl) T.n_sorted (by decide +kernel) (pa_cons (pv 3) pa_nil))) (pe_callB (cr_sortDK rfl) (by rfl) T.n_sorted (by decide +kernel) (pa_cons (pv 4) pa_nil))))
  (pss_cons (ps_set (i := 9) sc_law.nd rfl (Or.inl rfl) (pe_slice sl_list (pe_slice sl_list (pv 9) (po_some (pe_call G_law_draw (hr.mono (by decide)) (by rfl) T.g_law_draw T.law_draw.kp T.b_law_draw .nil pass0 (pa_cons (pv 7) (pa_cons (pe_callB call_len_seq (by rfl) T.n_len PySem.boot_len (pa_cons (pv 9) pa_nil)) pa_nil)))) po_none) po_none (po_some pe_int)))
  (pss_one (ps_for PassesOwn.never rfl (pi_list (pv 9)) (pg_name (i := 10) sc_law.nd rfl (Or.inl rfl))
  (pss_cons (ps_if (pt_not (pt_val (pe_call G_law_seen (hr.mono (by decide)) (by rfl) T.g_law_seen T.law_seen.kp T.b_law_seen .nil pass0 (pa_cons (pv 1) (pa_cons (pv 10) (pa_cons (pe_ifExp (pt_cmp (pc_din (hu_of hr) (pv 10) (pv 3))) (pe_lst (pa_cons (pe_dget (hu_of hr) (pv 3) (pv 10) (fun _ _ => rfl)) pa_nil)) (pe_lst pa_nil)) pa_nil)))))) (pss_one (ps_ret pe_bl)) pss_nil)
  (pss_one (ps_if (pt_not (pt_val (pe_call G_law_seen (hr.mono (by decide)) (by rfl) T.g_law_seen T.law_seen.kp T.b_law_seen .nil pass0 (pa_cons (pv 2) (pa_cons (pv 10) (pa_cons (pe_ifExp (pt_cmp (pc_din (hu_of hr) (pv 10) (pv 4))) (pe_lst (pa_cons (pe_dget (hu_of hr) (pv 4) (pv 10) (fun _ _ => rfl)) pa_nil)) (pe_lst pa_nil)) pa_nil)))))) (pss_one (ps_ret pe_bl)) pss_nil)))))))))
  (pss_one (ps_for PassesOwn.never rfl (pi_list (pe_lst (pa_cons pe_str (pa_cons pe_str (pa_cons pe_str (pa_cons pe_int (pa_cons pe_non (pa_cons (pe_tup (pa_cons pe_str pa_nil)) (pa_cons (pe_lst (pa_cons pe_str pa_nil)) (pa_cons (pe_lst (pa_cons (pe_lst pa_nil) pa_nil)) pa_nil)))))))))) (pg_name (i := 11) sc_law.nd rfl (Or.inl rfl))
  (pss_one (ps_if (pt_not (pt_val (pe_call G_law_odd (hr.mono (by decide)) (by rfl) T.g_law_odd T.law_odd.kp T.b_law_odd .nil pass0 (pa_cons (pv 1) (pa_cons (pv 11) pa_nil))))) (pss_one (ps_ret pe_bl)) pss_nil)))))))
  (pss_one (ps_ret pe_bl)))))), ?_⟩
    dsimp only [cxOf]
    have W0 : Wd a H H [] [] := wd_new
    walk_at "rd"
    intro x1 dx1 hx1 hdx1 nxd1
    refine ⟨x1, dx1, rfl, upd_same, fun H1 L1 hD1 el1 kp1 mt1 => ⟨rfl, ?_⟩⟩
    have W1 := W0.made hx1 hdx1 hD1 kp1 mt1
    walk_at "rd"
    intro x2 dx2 hx2 hdx2 nxd2
    refine ⟨x2, dx2, rfl, upd_same, fun H2 L2 hD2 el2 kp2 mt2 => ⟨rfl, ?_⟩⟩
    have W2 : Wd a H H2 [(L1, _), (L2, _)] [] := W1.made hx2 hdx2 hD2 kp2 mt2
    clear kp1 mt1 kp2 mt2 W0 W1
    walk_at "rd"
    intro v1 hv1
    have W3 : Wd a H _ [(L1, _), (L2, _)] [(v1, .dK [])] := W2.addC hv1 dK_ni
    walk_at "rd"
    intro v2 hv2
    have W4 : Wd a H _ [(L1, _), (L2, _)] [(v1, .dK []), (v2, .dK [])] := W3.addC hv2 dK_ni
    walk_at "rd"
    intro dp hdp
    have W5 : Wd a H (upd (upd (upd H2 v1 (.dK [])) v2 (.dK [])) dp (.lst [.int 0, .int 0])) [(L1, _), (L2, _)] [(v1, .dK []), (v2, .dK []), (dp, .lst [.int (0 : Nat), .int (0 : Nat)])] := W4.addC hdp lst_ni
    generalize upd (upd (upd H2 v1 (.dK [])) v2 (.dK [])) dp (.lst [.int 0, .int 0]) = H5 at W5 ⊢
    clear W4 W3 W2 hD1 hD2
    have hS5 := W5.same.seq hS
    walk_at "rd"
    refine for_range (fun i σ H' => i ≤ 8 ∧ ∃ L1 D1 L2 D2 k1 k2 n1 n2 v6 v7 v8 v9 v10 v11, Wd a H H' [(L1, D1), (L2, D2)] [(v1, .dK k1), (v2, .dK k2), (dp, .lst [.int (n1 : Nat), .int (n2 : Nat)])] ∧ L1.db = x1 ∧ L2.db = x2 ∧ G3 D1 k1 n1 (12 * i) ∧ G3 D2 k2 n2 (12 * i) ∧ σ = [some (.ref sa), some (.ref x1), some (.ref x2), some (.ref v1), some (.ref v2), some (.ref dp), v6, v7, v8, v9, v10, v11]) ?_ ?_ ?_
    · exact ⟨by omega, L1, _, L2, _, [], [], 0, 0, _, _, _, _, _, _, W5, el1, el2, g3_new, g3_new, rfl⟩
    · rintro i σ H6 hi ⟨h8, L1, D1, L2, D2, k1, k2, n1, n2, v6, v7, v8, v9, v10, v11, W6, el1, el2, g1, g2, rfl⟩
      have hi8 : i < 8 := by revert hi; split <;> split <;> omega
      refine ⟨_, rfl, _, rfl, sa, ns, i, ?_, W6.same.seq hS, by omega, fun p o hp ho => ?_⟩
      · rw [Int.zero_add]; rfl
      have W7 : Wd a H (upd H6 p o) [(L1, D1), (L2, D2)] [(v1, .dK k1), (v2, .dK k2), (dp, .lst [.int (n1 : Nat), .int (n2 : Nat)]), (p, o)] := W6.addC hp ho.ni
      generalize upd H6 p o = H7 at W7 ⊢
      have hp7 : H7 p = some o := W7.cl 3 _ rfl
      walk_at "rd"
      intro r8 o8 r80 r81 h8'
      have W8 : Wd a H (upd H7 p o8) [(L1, D1), (L2, D2)] [(v1, .dK k1), (v2, .dK k2), (dp, .lst [.int (n1 : Nat), .int (n2 : Nat)]), (p, o8)] := W7.setC (i := 3) o8 rfl h8'.ni
      generalize upd H7 p o8 = H8 at W8 ⊢
      walk_at "rd"
      refine for_range (fun j σ H' => j ≤ 12 ∧ ∃ L1 D1 L2 D2 k1 k2 n1 n2 o v8 v9 v10 v11, Wd a H H' [(L1, D1), (L2, D2)] [(v1, .dK k1), (v2, .dK k2), (dp, .lst [.int (n1 : Nat), .int (n2 : Nat)]), (p, o)] ∧ L1.db = x1 ∧ L2.db = x2 ∧ G3 D1 k1 n1 (12 * i + j) ∧ G3 D2 k2 n2 (12 * i + j) ∧ PoolO o (1 + 60 * j) ∧ σ = [some (.ref sa), some (.ref x1), some (.ref x2), some (.ref v1), some (.ref v2), some (.ref dp), some (.int (0 + (i : Int))), some (.ref p), v8, v9, v10, v11]) ?_ ?_ ?_
      · exact ⟨by omega, L1, D1, L2, D2, k1, k2, n1, n2, o8, _, _, _, _, W8, el1, el2, g1, g2, h8', rfl⟩
      · clear W6 W7 W8 g1 g2 hp7
        rintro j σ H9 hj ⟨_, L1, D1, L2, D2, k1, k2, n1, n2, o9, v8, v9, v10, v11, W9, el1, el2, g1, g2, h9, rfl⟩
        have hj12 : j < 12 := by omega
        have hp9 : H9 p = some o9 := W9.cl 3 _ rfl
        walk_at "rd"
        intro r10 o10 r100 r101 h10
        have W10 : Wd a H (upd H9 p o10) [(L1, D1), (L2, D2)] [(v1, .dK k1), (v2, .dK k2), (dp, .lst [.int (n1 : Nat), .int (n2 : Nat)]), (p, o10)] := W9.setC (i := 3) o10 rfl h10.ni
        generalize upd H9 p o10 = H10 at W10 ⊢
        have hd10 : H10 dp = some (.lst [.int (n1 : Nat), .int (n2 : Nat)]) := W10.cl 2 _ rfl
        have ae0 : atI [V.int (n1 : Nat), V.int (n2 : Nat)] 0 = some (.int (n1 : Nat)) := rfl
        have ae1 : atI [V.int (n1 : Nat), V.int (n2 : Nat)] 1 = some (.int (n2 : Nat)) := rfl
        walk_at "rd"
        refine ite2 (fun b1 => ?_) (fun b1 => ?_)
        focus
          walk_at "rd"
          refine ⟨H, _, _, 3, 0, 0, p, o10, L1, D1, v1, k1, n1, 12 * i + j, _, by rw [el1]; rfl, W10, rfl, rfl, rfl, by decide, h10, by omega, g1, by omega, fun H11 L11 D11 o11 k11 n11 W11 el11 h11 g11 => ?_⟩
          have W11 : Wd a H H11 [(L11, D11), (L2, D2)] [(v1, .dK k11), (v2, .dK k2), (dp, .lst [.int (n1 : Nat), .int (n2 : Nat)]), (p, o11)] := W11
          have hd11 : H11 dp = some (.lst [.int (n1 : Nat), .int (n2 : Nat)]) := W11.cl 2 _ rfl
          have W12 : Wd a H (upd H11 dp (.lst ([V.int (n1 : Nat), V.int (n2 : Nat)].set (Int.toNat 0) (V.int (n11 : Nat))))) [(L11, D11), (L2, D2)] [(v1, .dK k11), (v2, .dK k2), (dp, .lst [.int (n11 : Nat), .int (n2 : Nat)]), (p, o11)] := W11.setC (i := 2) (.lst [.int (n11 : Nat), .int (n2 : Nat)]) rfl lst_ni
          have hp12 : upd H11 dp (.lst ([V.int (n1 : Nat), V.int (n2 : Nat)].set (Int.toNat 0) (V.int (n11 : Nat)))) p = some o11 := W12.cl 3 _ rfl
          walk_at "rd"
          generalize upd H11 dp (.lst ([V.int (n1 : Nat), V.int (n2 : Nat)].set (Int.toNat 0) (V.int (n11 : Nat)))) = H12 at W12 hp12 ⊢
          obtain ⟨L1', D1', L2', D2', k1', k2', n1', n2', o12, W12, f1, f2, q1, q2, h12⟩ : ∃ L1 D1 L2 D2 k1 k2 n1 n2 o, Wd a H H12 [(L1, D1), (L2, D2)] [(v1, .dK k1), (v2, .dK k2), (dp, .lst [.int (n1 : Nat), .int (n2 : Nat)]), (p, o)] ∧ L1.db = x1 ∧ L2.db = x2 ∧ G3 D1 k1 n1 (12 * i + (j + 1)) ∧ G3 D2 k2 n2 (12 * i + (j + 1)) ∧ PoolO o (1 + 60 * j + 31) :=
            ⟨L11, D11, L2, D2, k11, k2, n11, n2, o11, W12, el11.trans el1, el2, g11.up (by omega), g2.up (by omega), h11.mono (by omega)⟩
        all_goals skip
        rotate_left
        focus
          walk_at "rd"
          refine ⟨H, _, _, 3, 1, 1, p, o10, L2, D2, v2, k2, n2, 12 * i + j, _, by rw [el2]; rfl, W10, rfl, rfl, rfl, by decide, h10, by omega, g2, by omega, fun H11 L11 D11 o11 k11 n11 W11 el11 h11 g11 => ?_⟩
          have W11 : Wd a H H11 [(L1, D1), (L11, D11)] [(v1, .dK k1), (v2, .dK k11), (dp, .lst [.int (n1 : Nat), .int (n2 : Nat)]), (p, o11)] := W11
          have hd11 : H11 dp = some (.lst [.int (n1 : Nat), .int (n2 : Nat)]) := W11.cl 2 _ rfl
          have W12 : Wd a H (upd H11 dp (.lst ([V.int (n1 : Nat), V.int (n2 : Nat)].set (Int.toNat 1) (V.int (n11 : Nat))))) [(L1, D1), (L11, D11)] [(v1, .dK k1), (v2, .dK k11), (dp, .lst [.int (n1 : Nat), .int (n11 : Nat)]), (p, o11)] := W11.setC (i := 2) (.lst [.int (n1 : Nat), .int (n11 : Nat)]) rfl lst_ni
          have hp12 : upd H11 dp (.lst ([V.int (n1 : Nat), V.int (n2 : Nat)].set (Int.toNat 1) (V.int (n11 : Nat)))) p = some o11 := W12.cl 3 _ rfl
          walk_at "rd"
          generalize upd H11 dp (.lst ([V.int (n1 : Nat), V.int (n2 : Nat)].set (Int.toNat 1) (V.int (n11 : Nat)))) = H12 at W12 hp12 ⊢
          obtain ⟨L1', D1', L2', D2', k1', k2', n1', n2', o12, W12, f1, f2, q1, q2, h12⟩ : ∃ L1 D1 L2 D2 k1 k2 n1 n2 o, Wd a H H12 [(L1, D1), (L2, D2)] [(v1, .dK k1), (v2, .dK k2), (dp, .lst [.int (n1 : Nat), .int (n2 : Nat)]), (p, o)] ∧ L1.db = x1 ∧ L2.db = x2 ∧ G3 D1 k1 n1 (12 * i + (j + 1)) ∧ G3 D2 k2 n2 (12 * i + (j + 1)) ∧ PoolO o (1 + 60 * j + 31) :=
            ⟨L1, D1, L11, D11, k1, k11, n1, n11, o11, W12, el1, el11.trans el2, g1.up (by omega), g11.up (by omega), h11.mono (by omega)⟩
        all_goals
          clear W10 W11 W9 g1 g2 g11 h9 h10 h11 hp9 hd10 hd11 ae0 ae1 el1 el2 el11
          obtain ⟨xs1, ex1, wx1⟩ := q1.ks
          obtain ⟨xs2, ex2, wx2⟩ := q2.ks
          intro w13 o13 H13 hw13 h13 hp13 kp13
          have W13 : Wd a H H13 [(L1', D1'), (L2', D2')] [(v1, .dK k1'), (v2, .dK k2'), (dp, .lst [.int (n1' : Nat), .int (n2' : Nat)]), (p, o13)] := W12.putC (i := 3) rfl kp13 hp13 h13.ni
          have hv1' : H13 v1 = some (.dK k1') := W13.cl 0 _ rfl
          have hv2' : H13 v2 = some (.dK k2') := W13.cl 1 _ rfl
          have z1 : xs1.length ≤ 200 := by
            have z := congrArg List.length ex1
            rw [List.length_map, List.length_map] at z
            have := q1.s3
            omega
          have z2 : xs2.length ≤ 200 := by
            have z := congrArg List.length ex2
            rw [List.length_map, List.length_map] at z
            have := q2.s3
            omega
          have l1 : [V.str w13].length + (List.map V.str (sortT xs1)).length ≤ sizeLine := by rw [List.length_map, sortT_len, sizeLine_eq, List.length_singleton]; omega
          have l2 : ([V.str w13] ++ List.map V.str (sortT xs1)).length + (List.map V.str (sortT xs2)).length ≤ sizeLine := by rw [List.length_append, List.length_map, List.length_map, sortT_len, sortT_len, sizeLine_eq, List.length_singleton]; omega
          walk_at "rd"
          intro q14 hq14
          walk_at "rd"
          intro q15 hq15
          walk_at "rd"
          intro q16 hq16
          walk_at "rd"
          intro q17 hq17
          walk_at "rd"
          intro q18 hq18
          have W17 := ((((W13.keep ((Same.refl _).new (o := .lst [V.str w13]) hq14)).keep ((Same.refl _).new (o := .lst (List.map V.str (sortT xs1))) hq15)).keep ((Same.refl _).new (o := .lst ([V.str w13] ++ List.map V.str (sortT xs1))) hq16)).keep ((Same.refl _).new (o := .lst (List.map V.str (sortT xs2))) hq17))
          obtain ⟨ys, eys⟩ : ∃ ys, ys = [w13] ++ sortT xs1 ++ sortT xs2 := ⟨_, rfl⟩
          have eys2 : [V.str w13] ++ List.map V.str (sortT xs1) ++ List.map V.str (sortT xs2) = ys.map V.str := by
            rw [eys, List.map_append, List.map_append]; rfl
          have W18 : Wd a H (upd _ q18 (.lst ([V.str w13] ++ List.map V.str (sortT xs1) ++ List.map V.str (sortT xs2)))) [(L1', D1'), (L2', D2')] [(v1, .dK k1'), (v2, .dK k2'), (dp, .lst [.int (n1' : Nat), .int (n2' : Nat)]), (p, o13), (q18, .lst ([V.str w13] ++ List.map V.str (sortT xs1) ++ List.map V.str (sortT xs2)))] := W17.addC hq18 lst_ni
          rw [eys2] at W18 ⊢
          generalize upd _ q18 _ = H18 at W18 ⊢
          have hl18 : H18 q18 = some (.lst (ys.map V.str)) := W18.cl 4 _ rfl
          have wys : ∀ z ∈ ys, IsWord z := by
            intro z hz
            rw [eys] at hz
            rcases List.mem_append.mp hz with hz | hz
            · rcases List.mem_append.mp hz with hz | hz
              · exact List.mem_singleton.mp hz ▸ hw13
              · exact wx1 z (sortT_mem.mp hz)
            · exact wx2 z (sortT_mem.mp hz)
          have lys : 0 < ys.length ∧ ys.length ≤ 500 := by
            rw [eys, List.length_append, List.length_append, sortT_len, sortT_len, List.length_singleton]; omega
          have lys1 : 0 < (ys.map V.str).length ∧ (ys.map V.str).length ≤ 500 := by rw [List.length_map]; exact lys
          clear eys eys2 hq14 hq15 hq16 hq17 hq18 W17 W13 W12
          have hp18 : H18 p = some o13 := W18.cl 3 _ rfl
          walk_at "rd"
          intro r19 o19 r190 r191 h19
          have W19 : Wd a H (upd H18 p o19) [(L1', D1'), (L2', D2')] [(v1, .dK k1'), (v2, .dK k2'), (dp, .lst [.int (n1' : Nat), .int (n2' : Nat)]), (p, o19), (q18, .lst (ys.map V.str))] := W18.setC (i := 3) o19 rfl h19.ni
          generalize upd H18 p o19 = H19 at W19 ⊢
          have hl19 : H19 q18 = some (.lst (ys.map V.str)) := W19.cl 4 _ rfl
          walk_at "rd"
          intro q20 hq20
          walk_at "rd"
          intro q21 hq21
          have W21 := (W19.keep ((Same.refl _).new (o := .lst (cutV (ys.map V.str) (some r19) none)) hq20)).keep ((Same.refl _).new (o := .lst (cutV (cutV (ys.map V.str) (some r19) none) none (some 3))) hq21)
          have hl21 := upd_same (H := upd H19 q20 (.lst (cutV (ys.map V.str) (some r19) none))) (a := q21) (o := .lst (cutV (cutV (ys.map V.str) (some r19) none) none (some 3)))
          generalize upd (upd H19 q20 (.lst (cutV (ys.map V.str) (some r19) none))) q21 (.lst (cutV (cutV (ys.map V.str) (some r19) none) none (some 3))) = H21 at W21 hl21 ⊢
          walk_at "rd"
          refine ⟨⟨_, SqL.of hl21⟩, ?_⟩
          refine for_list (xs := cutV (cutV (ys.map V.str) (some r19) none) none (some 3)) (fun _ σ H' => Same H21 H' ∧ ∃ v10 v11, σ = [some (.ref sa), some (.ref x1), some (.ref x2), some (.ref v1), some (.ref v2), some (.ref dp), some (.int (0 + (i : Int))), some (.ref p), some (.int (0 + (j : Int))), some (.ref q21), v10, v11]) ?_ ?_ ?_ ?_
          · exact ⟨Same.refl _, _, _, rfl⟩
          · rintro l σ H' _ ⟨s1, _⟩
            exact SqL.of (s1 _ _ hl21)
          · rintro l v σ H' hv ⟨s1, v10, v11, rfl⟩
            obtain ⟨z, hz, rfl⟩ : ∃ z ∈ ys, v = .str z := by
              have m := List.mem_of_getElem? hv
              have m := List.mem_of_mem_drop (List.mem_of_mem_take m)
              have m := List.mem_of_mem_drop (List.mem_of_mem_take m)
              obtain ⟨z, hz, e⟩ := List.mem_map.mp m
              exact ⟨z, hz, e.symm⟩
            have wz := wys z hz
            have W22 := W21.keep s1
            have hv1 : H' v1 = some (.dK k1') := W22.cl 0 _ rfl
            have hv2 : H' v2 = some (.dK k2') := W22.cl 1 _ rfl
            walk_at "rd"
            cases ev1 : valV k1' (Sum.inr z)
            focus
              have dg : DGet H' v1 (V.str z) none := ev1 ▸ DGet.k (k := Sum.inr z) hv1
              refine ⟨_, rfl, dg, ?_⟩
              walk_at "rd"
              intro q22 hq22
              have W23 := W22.keep ((Same.refl _).new (o := .lst []) hq22)
              have hq23 : upd H' q22 (.lst []) q22 = some (.lst (optL (valV k1' (Sum.inr z)))) := by rw [ev1]; exact upd_same
              have s23 := s1.new (o := .lst []) hq22
              generalize upd H' q22 (.lst []) = H23 at W23 hq23 s23 ⊢
            all_goals skip
            rotate_left
            focus
              rename_i v
              have dg : DGet H' v1 (V.str z) (some v) := ev1 ▸ DGet.k (k := Sum.inr z) hv1
              refine ⟨_, rfl, dg, ?_⟩
              walk_at "rd"
              intro q22 hq22
              have W23 := W22.keep ((Same.refl _).new (o := .lst [v]) hq22)
              have hq23 : upd H' q22 (.lst [v]) q22 = some (.lst (optL (valV k1' (Sum.inr z)))) := by rw [ev1]; exact upd_same
              have s23 := s1.new (o := .lst [v]) hq22
              generalize upd H' q22 (.lst [v]) = H23 at W23 hq23 s23 ⊢
            all_goals
              walk_at "rd"
              refine ⟨L1', D1', k1', n1', _, z, q22, by rw [f1]; rfl, W23.db 0 _ rfl, q1, by omega, wz, hq23, fun H24 s24 => ?_⟩
              have W24 := W23.keep s24
              have s24 := s23.trans s24
              have hv24 : H24 v2 = some (.dK k2') := W24.cl 1 _ rfl
              walk_at "rd"
              cases ev2 : valV k2' (Sum.inr z)
              focus
                have dg : DGet H24 v2 (V.str z) none := ev2 ▸ DGet.k (k := Sum.inr z) hv24
                refine ⟨_, rfl, dg, ?_⟩
                walk_at "rd"
                intro q25 hq25
                have W26 := W24.keep ((Same.refl _).new (o := .lst []) hq25)
                have hq26 : upd H24 q25 (.lst []) q25 = some (.lst (optL (valV k2' (Sum.inr z)))) := by rw [ev2]; exact upd_same
                have s26 := s24.new (o := .lst []) hq25
                generalize upd H24 q25 (.lst []) = H26 at W26 hq26 s26 ⊢
              all_goals skip
              rotate_left
              focus
                rename_i v
                have dg : DGet H24 v2 (V.str z) (some v) := ev2 ▸ DGet.k (k := Sum.inr z) hv24
                refine ⟨_, rfl, dg, ?_⟩
                walk_at "rd"
                intro q25 hq25
                have W26 := W24.keep ((Same.refl _).new (o := .lst [v]) hq25)
                have hq26 : upd H24 q25 (.lst [v]) q25 = some (.lst (optL (valV k2' (Sum.inr z)))) := by rw [ev2]; exact upd_same
                have s26 := s24.new (o := .lst [v]) hq25
                generalize upd H24 q25 (.lst [v]) = H26 at W26 hq26 s26 ⊢
              all_goals
                walk_at "rd"
                refine ⟨L2', D2', k2', n2', _, z, q25, by rw [f2]; rfl, W26.db 1 _ rfl, q2, by omega, wz, hq26, fun H27 s27 => ?_⟩
                walk_at "rd"
                exact ⟨s26.trans s27, _, _, rfl⟩
          · rintro σ H' ⟨s1, v10, v11, rfl⟩
            exact ⟨by omega, L1', D1', L2', D2', k1', k2', n1', n2', o19, _, _, _, _, (W21.keep s1).drop (cs' := [_]), f1, f2, q1, q2, h19.mono (by omega), rfl⟩
      · rintro σ H9 ⟨hj, L1, D1, L2, D2, k1, k2, n1, n2, o9, v8, v9, v10, v11, W9, el1, el2, g1, g2, h9, rfl⟩
        walk_at "rd"
        intro t1 ht1
        walk_at "rd"
        intro l1 hl1
        walk_at "rd"
        intro l2 hl2
        walk_at "rd"
        intro l3 hl3
        walk_at "rd"
        intro lb hlb
        have u1 := upd_same (H := H9) (a := t1) (o := .tup [.str "a"])
        have W10 := W9.keep ((Same.refl _).new (o := .tup [.str "a"]) ht1)
        generalize upd H9 t1 (.tup [.str "a"]) = H10 at W10 u1 hl1 hl2 hl3 hlb ⊢
        have u2 := upd_same (H := H10) (a := l1) (o := .lst [.str "a"])
        have u1 := upd_old (o := .lst [.str "a"]) u1 hl1
        have W11 := W10.keep ((Same.refl _).new (o := .lst [.str "a"]) hl1)
        generalize upd H10 l1 (.lst [.str "a"]) = H11 at W11 u1 u2 hl2 hl3 hlb ⊢
        have u3 := upd_same (H := H11) (a := l2) (o := .lst [])
        have u1 := upd_old (o := .lst []) u1 hl2
        have u2 := upd_old (o := .lst []) u2 hl2
        have W12 := W11.keep ((Same.refl _).new (o := .lst []) hl2)
        generalize upd H11 l2 (.lst []) = H12 at W12 u1 u2 u3 hl3 hlb ⊢
        have u4 := upd_same (H := H12) (a := l3) (o := .lst [.ref l2])
        have u1 := upd_old (o := .lst [.ref l2]) u1 hl3
        have u2 := upd_old (o := .lst [.ref l2]) u2 hl3
        have u3 := upd_old (o := .lst [.ref l2]) u3 hl3
        have W13 := W12.keep ((Same.refl _).new (o := .lst [.ref l2]) hl3)
        generalize upd H12 l3 (.lst [.ref l2]) = H13 at W13 u1 u2 u3 u4 hlb ⊢
        obtain ⟨xs, exs⟩ : ∃ xs, xs = [V.str "", .str "Ab", .str "abcdefghi", .int 3, .non, .ref t1, .ref l1, .ref l3] := ⟨_, rfl⟩
        rw [← exs]
        have u5 := upd_same (H := H13) (a := lb) (o := .lst xs)
        have u1 := upd_old (o := .lst xs) u1 hlb
        have u2 := upd_old (o := .lst xs) u2 hlb
        have u3 := upd_old (o := .lst xs) u3 hlb
        have u4 := upd_old (o := .lst xs) u4 hlb
        have W14 := W13.keep ((Same.refl _).new (o := .lst xs) hlb)
        generalize upd H13 lb (.lst xs) = H14 at W14 u1 u2 u3 u4 u5 ⊢
        have odd : ∀ v ∈ xs, wordB v = false ∧ (∀ H', Same H14 H' → Thing H' v ∧ ∃ dt, Dp K H' v dt ∧ SeqAt.shaped dt = true) := by
          intro v hv
          rw [exs] at hv
          simp only [List.mem_cons, List.not_mem_nil, or_false] at hv
          rcases hv with rfl | rfl | rfl | rfl | rfl | rfl | rfl | rfl
          · exact ⟨by decide +kernel, fun H' _ => ⟨.str _ (by decide +kernel) (by unfold asc; decide +kernel), _, .str _, by decide +kernel⟩⟩
          · exact ⟨by decide +kernel, fun H' _ => ⟨.str _ (by decide +kernel) (by unfold asc; decide +kernel), _, .str _, by decide +kernel⟩⟩
          · exact ⟨by decide +kernel, fun H' _ => ⟨.str _ (by decide +kernel) (by unfold asc; decide +kernel), _, .str _, by decide +kernel⟩⟩
          · exact ⟨rfl, fun H' _ => ⟨.int 3, _, .int 3, rfl⟩⟩
          · exact ⟨rfl, fun H' _ => ⟨.non, _, .non, rfl⟩⟩
          · exact ⟨rfl, fun H' s => ⟨.tup (s _ _ u1), _, .tup (SqT.of (s _ _ u1)) (.cons (.str _) .nil), by decide +kernel⟩⟩
          · exact ⟨rfl, fun H' s => ⟨.lst (s _ _ u2), _, .lst (SqL.of (s _ _ u2)) (.cons (.str _) .nil), by decide +kernel⟩⟩
          · exact ⟨rfl, fun H' s => ⟨.lst (s _ _ u4), _, .lst (SqL.of (s _ _ u4)) (.cons (.lst (SqL.of (s _ _ u3)) .nil) .nil), by decide +kernel⟩⟩
        walk_at "rd"
        refine ⟨⟨_, SqL.of u5⟩, ?_⟩
        refine for_list (xs := xs) (fun _ σ H' => Same H14 H' ∧ ∃ v11, σ = [some (.ref sa), some (.ref x1), some (.ref x2), some (.ref v1), some (.ref v2), some (.ref dp), some (.int (0 + (i : Int))), some (.ref p), v8, v9, v10, v11]) ?_ ?_ ?_ ?_
        · exact ⟨Same.refl _, _, rfl⟩
        · rintro l σ H' _ ⟨s1, _⟩
          exact SqL.of (s1 _ _ u5)
        · rintro l v σ H' hv ⟨s1, v11, rfl⟩
          obtain ⟨o1, o2⟩ := odd v (List.mem_of_getElem? hv)
          walk_at "rd"
          refine ⟨L1, D1, k1, n1, _, v, by rw [el1]; rfl, (W14.keep s1).db 0 _ rfl, g1, by omega, o1, (o2 _ s1).1, fun H'' s2 => (o2 _ (s1.trans s2)).2, fun H'' s2 => ?_⟩
          walk_at "rd"
          exact ⟨s1.trans s2, _, rfl⟩
        · rintro σ H' ⟨s1, v11, rfl⟩
          exact ⟨by omega, L1, D1, L2, D2, k1, k2, n1, n2, _, _, _, _, _, _, (W14.keep s1).drop (cs' := [_]), el1, el2, g1.up (by omega), g2.up (by omega), rfl⟩
    · rintro σ H6 ⟨_, L1, D1, L2, D2, k1, k2, n1, n2, v6, v7, v8, v9, v10, v11, W6, el1, el2, g1, g2, rfl⟩
      exact k _
end
theorem all_mk {w : World} {K : PySem.W.Frag} {h : Heap} {mg : Str → Option Value} {fa : Addr} (X : K.In h) (G : h.Ns mainGlobals mg) (hfa : mg "law" = some (.ref fa))
    {C1 : Addr}
    {t6 : Tok}
    {t8 : Tok}
    {t10 : Tok}
    {t12 : Tok}
    {t14 : Tok}
    {t16 : Tok}
    {t18 : Tok}
    {t20 : Tok}
    {t24 t25 t26 t27 t28 t29 t30 t31 : Tok} {p22 : Addr} {dd32 : Option Addr} {nn33 : Nat} {sl34 : Array (Option Value)}
    {f35 p36 : Addr} {rs39 : List Value}
    {od40 an40 : Option Addr} {sl40 : Array (Option Value)} {oc40 kV40 dc40 pm40 cd40 ct40 : Value}
    {f41 : Addr}
    {od43 an43 : Option Addr} {sl43 : Array (Option Value)} {oc43 kV43 dc43 pm43 cd43 ct43 : Value}
    {C45 : Addr}
    {f47 : Addr} {nm48 qn48 : Str} {N48 : Addr} {bs48 bm48 : List Value} {sn48 : List Str} {sub48 : List Value} {ab48 : Bool} {col48 : Option Bool} {dd48 : Option Addr} {k048 k148 k248 k348 k548 : Option Value}
    {oc48 : Value} {od48 : Option Addr} {doc48 pm48 : Value} {an48 : Option Addr} {cda48 cc48 : Addr} {ct48 : Value} {osl48 : Array (Option Value)} {ccl48 : Value} {cdd48 : Option Addr} {vs48 : Array Value} {ccs48 : Array (Option Value)} {tf48 : Tok} {cl48 : Value} {cld48 : Option Addr} {csl48 : Array (Option Value)}
    {C71 : Addr}
    {f73 : Addr} {nm74 qn74 : Str} {N74 : Addr} {bs74 bm74 : List Value} {sn74 : List Str} {sub74 : List Value} {ab74 : Bool} {col74 : Option Bool} {dd74 : Option Addr} {k074 k174 k274 k374 k574 : Option Value}
    {oc74 : Value} {od74 : Option Addr} {doc74 pm74 : Value} {an74 : Option Addr} {cda74 cc74 : Addr} {ct74 : Value} {osl74 : Array (Option Value)} {ccl74 : Value} {cdd74 : Option Addr} {vs74 : Array Value} {ccs74 : Array (Option Value)} {tf74 : Tok} {cl74 : Value} {cld74 : Option Addr} {csl74 : Array (Option Value)}
    {C97 : Addr}
    {f99 : Addr} {nm100 qn100 : Str} {N100 : Addr} {bs100 bm100 : List Value} {sn100 : List Str} {sub100 : List Value} {ab100 : Bool} {col100 : Option Bool} {dd100 : Option Addr} {k0100 k1100 k2100 k3100 k5100 : Option Value}
    {oc100 : Value} {od100 : Option Addr} {doc100 pm100 : Value} {an100 : Option Addr} {cda100 cc100 : Addr} {ct100 : Value} {osl100 : Array (Option Value)} {ccl100 : Value} {cdd100 : Option Addr} {vs100 : Array Value} {ccs100 : Array (Option Value)} {tf100 : Tok} {cl100 : Value} {cld100 : Option Addr} {csl100 : Array (Option Value)}
    {C123 : Addr}
    {f125 : Addr} {nm126 qn126 : Str} {N126 : Addr} {bs126 bm126 : List Value} {sn126 : List Str} {sub126 : List Value} {ab126 : Bool} {col126 : Option Bool} {dd126 : Option Addr} {k0126 k1126 k2126 k3126 k5126 : Option Value}
    {oc126 : Value} {od126 : Option Addr} {doc126 pm126 : Value} {an126 : Option Addr} {cda126 cc126 : Addr} {ct126 : Value} {osl126 : Array (Option Value)} {ccl126 : Value} {cdd126 : Option Addr} {vs126 : Array Value} {ccs126 : Array (Option Value)} {tf126 : Tok} {cl126 : Value} {cld126 : Option Addr} {csl126 : Array (Option Value)}
    {C148 : Addr}
    {f150 : Addr} {nm151 qn151 : Str} {N151 : Addr} {bs151 bm151 : List Value} {sn151 : List Str} {sub151 : List Value} {ab151 : Bool} {col151 : Option Bool} {dd151 : Option Addr} {k0151 k1151 k2151 k3151 k5151 : Option Value}
    {oc151 : Value} {od151 : Option Addr} {doc151 pm151 : Value} {an151 : Option Addr} {cda151 cc151 : Addr} {ct151 : Value} {osl151 : Array (Option Value)} {ccl151 : Value} {cdd151 : Option Addr} {vs151 : Array Value} {ccs151 : Array (Option Value)} {tf151 : Tok} {cl151 : Value} {cld151 : Option Addr} {csl151 : Array (Option Value)}
    {C172 : Addr}
    {f174 : Addr} {nm175 qn175 : Str} {N175 : Addr} {bs175 bm175 : List Value} {sn175 : List Str} {sub175 : List Value} {ab175 : Bool} {col175 : Option Bool} {dd175 : Option Addr} {k0175 k1175 k2175 k3175 k5175 : Option Value}
    {oc175 : Value} {od175 : Option Addr} {doc175 pm175 : Value} {an175 : Option Addr} {cda175 cc175 : Addr} {ct175 : Value} {osl175 : Array (Option Value)} {ccl175 : Value} {cdd175 : Option Addr} {vs175 : Array Value} {ccs175 : Array (Option Value)} {tf175 : Tok} {cl175 : Value} {cld175 : Option Addr} {csl175 : Array (Option Value)}
    {C198 : Addr}
    {f200 : Addr} {nm201 qn201 : Str} {N201 : Addr} {bs201 bm201 : List Value} {sn201 : List Str} {sub201 : List Value} {ab201 : Bool} {col201 : Option Bool} {dd201 : Option Addr} {k0201 k1201 k2201 k3201 k5201 : Option Value}
    {oc201 : Value} {od201 : Option Addr} {doc201 pm201 : Value} {an201 : Option Addr} {cda201 cc201 : Addr} {ct201 : Value} {osl201 : Array (Option Value)} {ccl201 : Value} {cdd201 : Option Addr} {vs201 : Array Value} {ccs201 : Array (Option Value)} {tf201 : Tok} {cl201 : Value} {cld201 : Option Addr} {csl201 : Array (Option Value)}
    {C223 : Addr}
    {f225 : Addr} {nm226 qn226 : Str} {N226 : Addr} {bs226 bm226 : List Value} {sn226 : List Str} {sub226 : List Value} {ab226 : Bool} {col226 : Option Bool} {dd226 : Option Addr} {k0226 k1226 k2226 k3226 k5226 : Option Value}
    {oc226 : Value} {od226 : Option Addr} {doc226 pm226 : Value} {an226 : Option Addr} {cda226 cc226 : Addr} {ct226 : Value} {osl226 : Array (Option Value)} {ccl226 : Value} {cdd226 : Option Addr} {vs226 : Array Value} {ccs226 : Array (Option Value)} {tf226 : Tok} {cl226 : Value} {cld226 : Option Addr} {csl226 : Array (Option Value)}
    {C248 : Addr}
    {f250 : Addr} {nm251 qn251 : Str} {N251 : Addr} {bs251 bm251 : List Value} {sn251 : List Str} {sub251 : List Value} {ab251 : Bool} {col251 : Option Bool} {dd251 : Option Addr} {k0251 k1251 k2251 k3251 k5251 : Option Value}
    {oc251 : Value} {od251 : Option Addr} {doc251 pm251 : Value} {an251 : Option Addr} {cda251 cc251 : Addr} {ct251 : Value} {osl251 : Array (Option Value)} {ccl251 : Value} {cdd251 : Option Addr} {vs251 : Array Value} {ccs251 : Array (Option Value)} {tf251 : Tok} {cl251 : Value} {cld251 : Option Addr} {csl251 : Array (Option Value)}
    {C273 : Addr}
    {f284 : Addr}
    {od289 an289 : Option Addr} {sl289 : Array (Option Value)} {oc289 kV289 dc289 pm289 cd289 ct289 : Value}
    {C290 : Addr}
    {f298 : Addr}
    {od303 an303 : Option Addr} {sl303 : Array (Option Value)} {oc303 kV303 dc303 pm303 cd303 ct303 : Value}
    {C304 : Addr}
    {f315 : Addr}
    {od320 an320 : Option Addr} {sl320 : Array (Option Value)} {oc320 kV320 dc320 pm320 cd320 ct320 : Value}
    {f321 : Addr}
    {od324 an324 : Option Addr} {sl324 : Array (Option Value)} {oc324 kV324 dc324 pm324 cd324 ct324 : Value}
    {f325 : Addr}
    {od328 an328 : Option Addr} {sl328 : Array (Option Value)} {oc328 kV328 dc328 pm328 cd328 ct328 : Value}
    {f329 : Addr}
    {od332 an332 : Option Addr} {sl332 : Array (Option Value)} {oc332 kV332 dc332 pm332 cd332 ct332 : Value}
    {f333 : Addr}
    {od336 an336 : Option Addr} {sl336 : Array (Option Value)} {oc336 kV336 dc336 pm336 cd336 ct336 : Value}
    {f337 : Addr}
    {od340 an340 : Option Addr} {sl340 : Array (Option Value)} {oc340 dc340 pm340 cd340 ct340 : Value}
    {T341 : Addr} {oc342 : Value} {od343 : Option Addr} {on344 : Nat} {os345 : Array (Option Value)}
    {t346 : Tok}
    {kV340 : Value}
    {f348 : Addr}
    {od351 an351 : Option Addr} {sl351 : Array (Option Value)} {oc351 kV351 dc351 pm351 cd351 ct351 : Value}
    {f352 : Addr}
    {od355 an355 : Option Addr} {sl355 : Array (Option Value)} {oc355 kV355 dc355 pm355 cd355 ct355 : Value}
    {f356 : Addr}
    {od359 an359 : Option Addr} {sl359 : Array (Option Value)} {oc359 dc359 pm359 cd359 ct359 : Value}
    {T360 : Addr} {oc361 : Value} {od362 : Option Addr} {on363 : Nat} {os364 : Array (Option Value)}
    {D367 : Addr}
    {f370 : Addr}
    {od373 an373 : Option Addr} {sl373 : Array (Option Value)} {oc373 kV373 dc373 pm373 cd373 ct373 : Value}
    {f374 : Addr}
    {od377 an377 : Option Addr} {sl377 : Array (Option Value)} {oc377 kV377 dc377 pm377 cd377 ct377 : Value}
    {f378 : Addr}
    {od381 an381 : Option Addr} {sl381 : Array (Option Value)} {oc381 kV381 dc381 pm381 cd381 ct381 : Value}
    {f382 : Addr}
    {od385 an385 : Option Addr} {sl385 : Array (Option Value)} {oc385 kV385 dc385 pm385 cd385 ct385 : Value}
    {f386 : Addr}
    {od389 an389 : Option Addr} {sl389 : Array (Option Value)} {oc389 kV389 dc389 pm389 cd389 ct389 : Value}
    {f390 : Addr}
    {od393 an393 : Option Addr} {sl393 : Array (Option Value)} {oc393 kV393 dc393 pm393 cd393 ct393 : Value}
    {f394 : Addr}
    {od397 an397 : Option Addr} {sl397 : Array (Option Value)} {oc397 kV397 dc397 pm397 cd397 ct397 : Value}
    {f398 : Addr}
    {od401 an401 : Option Addr} {sl401 : Array (Option Value)} {oc401 kV401 dc401 pm401 cd401 ct401 : Value}
    {f403 : Addr}
    {od405 an405 : Option Addr} {sl405 : Array (Option Value)} {oc405 kV405 dc405 pm405 cd405 ct405 : Value}
    {f406 : Addr}
    {od408 an408 : Option Addr} {sl408 : Array (Option Value)} {oc408 kV408 dc408 pm408 cd408 ct408 : Value}
    {f409 : Addr}
    {od411 an411 : Option Addr} {sl411 : Array (Option Value)} {oc411 kV411 dc411 pm411 cd411 ct411 : Value}
    {f412 : Addr}
    {od414 an414 : Option Addr} {sl414 : Array (Option Value)} {oc414 kV414 dc414 pm414 cd414 ct414 : Value}
    {f415 : Addr}
    {od417 an417 : Option Addr} {sl417 : Array (Option Value)} {oc417 kV417 dc417 pm417 cd417 ct417 : Value}
    {f418 : Addr}
    {od420 an420 : Option Addr} {sl420 : Array (Option Value)} {oc420 kV420 dc420 pm420 cd420 ct420 : Value}
    {od421 an421 : Option Addr} {sl421 : Array (Option Value)} {oc421 kV421 dc421 pm421 cd421 ct421 : Value}
    (a2 : PySem.W.nsIn K mainGlobals "Mode" = some (some (.ref C1)))
    (r3 : PySem.W.readsIn K C1 (.type "type") = true)
    (s4 : PySem.W.specialIn K (.ref C1) "__getattribute__" = some (some (.builtin "type.__getattribute__")))
    (z5 : PySem.W.findCls K (.ref C1) (.type "type") "JOIN" = some (.val (.str "join" t6)))
    (z7 : PySem.W.findCls K (.ref C1) (.type "type") "INNER" = some (.val (.str "inner" t8)))
    (z9 : PySem.W.findCls K (.ref C1) (.type "type") "APART" = some (.val (.str "apart" t10)))
    (z11 : PySem.W.findCls K (.ref C1) (.type "type") "MUST" = some (.val (.str "must" t12)))
    (z13 : PySem.W.findCls K (.ref C1) (.type "type") "EITHER" = some (.val (.str "either" t14)))
    (z15 : PySem.W.findCls K (.ref C1) (.type "type") "NEVER" = some (.val (.str "never" t16)))
    (z17 : PySem.W.findCls K (.ref C1) (.type "type") "OUTSIDE" = some (.val (.str "outside" t18)))
    (z19 : PySem.W.findCls K (.ref C1) (.type "type") "ALONE" = some (.val (.str "alone" t20)))
    (z21 : PySem.W.findCls K (.ref C1) (.type "type") "ALL" = some (.val (.ref p22)))
    (l23 : K.lookup p22 = some ⟨.type "tuple", dd32, .seq #[.str "join" t24, .str "inner" t25, .str "apart" t26, .str "must" t27, .str "either" t28, .str "never" t29, .str "outside" t30, .str "alone" t31] nn33, sl34⟩)
    (z37 : PySem.W.findCls K (.ref C1) (.type "type") "is_mode" = some (.get (.builtin "staticmethod.__get__") (.ref p36) .none (.ref C1)))
    (r38 : PySem.W.recIn K p36 "staticmethod" = some (.ref f35 :: rs39))
    (l40 : K.lookup f35 = some ⟨oc40, od40, .func (PySem.W.fnOf "is_mode" "Mode.is_mode" (defArgs s_Mode_is_mode) (defBody s_Mode_is_mode) (defScope s_Mode_is_mode) .none kV40 dc40 pm40 an40 cd40 ct40), sl40⟩)
    (c40 : PySem.W.codeIn K cd40 "Mode.is_mode" = true)
    (k40 : PySem.W.keepIn K (.ref f35) = true)
    (a42 : PySem.W.nsIn K mainGlobals "is_word" = some (some (.ref f41)))
    (l43 : K.lookup f41 = some ⟨oc43, od43, .func (PySem.W.fnOf "is_word" "is_word" (defArgs s_is_word) (defBody s_is_word) (defScope s_is_word) .none kV43 dc43 pm43 an43 cd43 ct43), sl43⟩)
    (c43 : PySem.W.codeIn K cd43 "is_word" = true)
    (k43 : PySem.W.keepIn K (.ref f41) = true)
    (z44 : PySem.W.nsIn K cStatics "thirdparty.any" = some none)
    (a46 : PySem.W.nsIn K mainGlobals "Missing" = some (some (.ref C45)))
    (e49 : K.lookup C45 = some (excClassObj nm48 qn48 C45 N48 bs48 bm48 true sn48 sub48 ab48 col48 dd48 k048 k148 k248 k348 k548 "ValueError.__new__"))
    (e50 : PySem.HandSPX.refsVE bm48 = true)
    (e51 : PySem.W.findIn K (.ref C45) "__setattr__" = some (some (.builtin "object.__setattr__")))
    (e52 : PySem.W.findIn K (.ref C45) "__getattribute__" = some (some (.builtin "BaseException.__getattribute__")))
    (e53 : PySem.W.findIn K (.ref C45) "__getattr__" = some none)
    (e54 : PySem.W.findIn K (.ref C45) "__init__" = some (some (.ref f47)))
    (e55 : PySem.W.typeIn K (.ref f47) = some (.type "function"))
    (e56 : PySem.W.keepIn K (.ref C45) = true)
    (e57 : PySem.W.subIn K (.ref C45) (.type "BaseException") = some true)
    (e58 : PySem.W.subIn K (.ref C45) (.type "ValueError") = some true)
    (e59 : PySem.W.typeIn K (.ref C45) = some (.type "type"))
    (e60 : PySem.W.hasDictIn K C45 = true)
    (e61 : PySem.W.ks_superIn K C45 C45 "__init__" = some (some (.builtin "ValueError.__init__")))
    (e62 : PySem.W.mroIn K C45 (.ref C45) = some true)
    (e63 : PySem.W.exmOne K (.ref C45) (.ref C45) = some true)
    (e64 : K.lookup f47 = some ⟨oc48, od48, .func (PySem.W.ksFn "__init__" "Missing.__init__" (defArgs s_MissingU_initU) (defBody s_MissingU_initU) (defScope s_MissingU_initU) .none .none doc48 pm48 an48 (.ref cda48) ct48 cc48), osl48⟩)
    (e65 : PySem.W.codeIn K (.ref cda48) "Missing.__init__" = true)
    (e66 : K.lookup cda48 = some ⟨ccl48, cdd48, .fields vs48, ccs48⟩)
    (e67 : vs48[2]? = some (.str P.main.file tf48))
    (e68 : K.lookup cc48 = some ⟨cl48, cld48, .cell (some (.ref C45)), csl48⟩)
    (e69 : PySem.W.findIn K (.ref C45) "word" = some none)
    (e70 : PySem.W.findIn K (.ref C45) "mode" = some none)
    (a72 : PySem.W.nsIn K mainGlobals "Present" = some (some (.ref C71)))
    (e75 : K.lookup C71 = some (excClassObj nm74 qn74 C71 N74 bs74 bm74 true sn74 sub74 ab74 col74 dd74 k074 k174 k274 k374 k574 "ValueError.__new__"))
    (e76 : PySem.HandSPX.refsVE bm74 = true)
    (e77 : PySem.W.findIn K (.ref C71) "__setattr__" = some (some (.builtin "object.__setattr__")))
    (e78 : PySem.W.findIn K (.ref C71) "__getattribute__" = some (some (.builtin "BaseException.__getattribute__")))
    (e79 : PySem.W.findIn K (.ref C71) "__getattr__" = some none)
    (e80 : PySem.W.findIn K (.ref C71) "__init__" = some (some (.ref f73)))
    (e81 : PySem.W.typeIn K (.ref f73) = some (.type "function"))
    (e82 : PySem.W.keepIn K (.ref C71) = true)
    (e83 : PySem.W.subIn K (.ref C71) (.type "BaseException") = some true)
    (e84 : PySem.W.subIn K (.ref C71) (.type "ValueError") = some true)
    (e85 : PySem.W.typeIn K (.ref C71) = some (.type "type"))
    (e86 : PySem.W.hasDictIn K C71 = true)
    (e87 : PySem.W.ks_superIn K C71 C71 "__init__" = some (some (.builtin "ValueError.__init__")))
    (e88 : PySem.W.mroIn K C71 (.ref C71) = some true)
    (e89 : PySem.W.exmOne K (.ref C71) (.ref C71) = some true)
    (e90 : K.lookup f73 = some ⟨oc74, od74, .func (PySem.W.ksFn "__init__" "Present.__init__" (defArgs s_PresentU_initU) (defBody s_PresentU_initU) (defScope s_PresentU_initU) .none .none doc74 pm74 an74 (.ref cda74) ct74 cc74), osl74⟩)
    (e91 : PySem.W.codeIn K (.ref cda74) "Present.__init__" = true)
    (e92 : K.lookup cda74 = some ⟨ccl74, cdd74, .fields vs74, ccs74⟩)
    (e93 : vs74[2]? = some (.str P.main.file tf74))
    (e94 : K.lookup cc74 = some ⟨cl74, cld74, .cell (some (.ref C71)), csl74⟩)
    (e95 : PySem.W.findIn K (.ref C71) "word" = some none)
    (e96 : PySem.W.findIn K (.ref C71) "mode" = some none)
    (a98 : PySem.W.nsIn K mainGlobals "Doomed" = some (some (.ref C97)))
    (e101 : K.lookup C97 = some (excClassObj nm100 qn100 C97 N100 bs100 bm100 true sn100 sub100 ab100 col100 dd100 k0100 k1100 k2100 k3100 k5100 "ValueError.__new__"))
    (e102 : PySem.HandSPX.refsVE bm100 = true)
    (e103 : PySem.W.findIn K (.ref C97) "__setattr__" = some (some (.builtin "object.__setattr__")))
    (e104 : PySem.W.findIn K (.ref C97) "__getattribute__" = some (some (.builtin "BaseException.__getattribute__")))
    (e105 : PySem.W.findIn K (.ref C97) "__getattr__" = some none)
    (e106 : PySem.W.findIn K (.ref C97) "__init__" = some (some (.ref f99)))
    (e107 : PySem.W.typeIn K (.ref f99) = some (.type "function"))
    (e108 : PySem.W.keepIn K (.ref C97) = true)
    (e109 : PySem.W.subIn K (.ref C97) (.type "BaseException") = some true)
    (e110 : PySem.W.subIn K (.ref C97) (.type "ValueError") = some true)
    (e111 : PySem.W.typeIn K (.ref C97) = some (.type "type"))
    (e112 : PySem.W.hasDictIn K C97 = true)
    (e113 : PySem.W.ks_superIn K C97 C97 "__init__" = some (some (.builtin "ValueError.__init__")))
    (e114 : PySem.W.mroIn K C97 (.ref C97) = some true)
    (e115 : PySem.W.exmOne K (.ref C97) (.ref C97) = some true)
    (e116 : K.lookup f99 = some ⟨oc100, od100, .func (PySem.W.ksFn "__init__" "Doomed.__init__" (defArgs s_DoomedU_initU) (defBody s_DoomedU_initU) (defScope s_DoomedU_initU) .none .none doc100 pm100 an100 (.ref cda100) ct100 cc100), osl100⟩)
    (e117 : PySem.W.codeIn K (.ref cda100) "Doomed.__init__" = true)
    (e118 : K.lookup cda100 = some ⟨ccl100, cdd100, .fields vs100, ccs100⟩)
    (e119 : vs100[2]? = some (.str P.main.file tf100))
    (e120 : K.lookup cc100 = some ⟨cl100, cld100, .cell (some (.ref C97)), csl100⟩)
    (e121 : PySem.W.findIn K (.ref C97) "word" = some none)
    (e122 : PySem.W.findIn K (.ref C97) "first" = some none)
    (a124 : PySem.W.nsIn K mainGlobals "Refused" = some (some (.ref C123)))
    (e127 : K.lookup C123 = some (excClassObj nm126 qn126 C123 N126 bs126 bm126 true sn126 sub126 ab126 col126 dd126 k0126 k1126 k2126 k3126 k5126 "ValueError.__new__"))
    (e128 : PySem.HandSPX.refsVE bm126 = true)
    (e129 : PySem.W.findIn K (.ref C123) "__setattr__" = some (some (.builtin "object.__setattr__")))
    (e130 : PySem.W.findIn K (.ref C123) "__getattribute__" = some (some (.builtin "BaseException.__getattribute__")))
    (e131 : PySem.W.findIn K (.ref C123) "__getattr__" = some none)
    (e132 : PySem.W.findIn K (.ref C123) "__init__" = some (some (.ref f125)))
    (e133 : PySem.W.typeIn K (.ref f125) = some (.type "function"))
    (e134 : PySem.W.keepIn K (.ref C123) = true)
    (e135 : PySem.W.subIn K (.ref C123) (.type "BaseException") = some true)
    (e136 : PySem.W.subIn K (.ref C123) (.type "ValueError") = some true)
    (e137 : PySem.W.typeIn K (.ref C123) = some (.type "type"))
    (e138 : PySem.W.hasDictIn K C123 = true)
    (e139 : PySem.W.ks_superIn K C123 C123 "__init__" = some (some (.builtin "ValueError.__init__")))
    (e140 : PySem.W.mroIn K C123 (.ref C123) = some true)
    (e141 : PySem.W.exmOne K (.ref C123) (.ref C123) = some true)
    (e142 : K.lookup f125 = some ⟨oc126, od126, .func (PySem.W.ksFn "__init__" "Refused.__init__" (defArgs s_RefusedU_initU) (defBody s_RefusedU_initU) (defScope s_RefusedU_initU) .none .none doc126 pm126 an126 (.ref cda126) ct126 cc126), osl126⟩)
    (e143 : PySem.W.codeIn K (.ref cda126) "Refused.__init__" = true)
    (e144 : K.lookup cda126 = some ⟨ccl126, cdd126, .fields vs126, ccs126⟩)
    (e145 : vs126[2]? = some (.str P.main.file tf126))
    (e146 : K.lookup cc126 = some ⟨cl126, cld126, .cell (some (.ref C123)), csl126⟩)
    (e147 : PySem.W.findIn K (.ref C123) "word" = some none)
    (a149 : PySem.W.nsIn K mainGlobals "NoBlock" = some (some (.ref C148)))
    (e152 : K.lookup C148 = some (excClassObj nm151 qn151 C148 N151 bs151 bm151 true sn151 sub151 ab151 col151 dd151 k0151 k1151 k2151 k3151 k5151 "ValueError.__new__"))
    (e153 : PySem.HandSPX.refsVE bm151 = true)
    (e154 : PySem.W.findIn K (.ref C148) "__setattr__" = some (some (.builtin "object.__setattr__")))
    (e155 : PySem.W.findIn K (.ref C148) "__getattribute__" = some (some (.builtin "BaseException.__getattribute__")))
    (e156 : PySem.W.findIn K (.ref C148) "__getattr__" = some none)
    (e157 : PySem.W.findIn K (.ref C148) "__init__" = some (some (.ref f150)))
    (e158 : PySem.W.typeIn K (.ref f150) = some (.type "function"))
    (e159 : PySem.W.keepIn K (.ref C148) = true)
    (e160 : PySem.W.subIn K (.ref C148) (.type "BaseException") = some true)
    (e161 : PySem.W.subIn K (.ref C148) (.type "ValueError") = some true)
    (e162 : PySem.W.typeIn K (.ref C148) = some (.type "type"))
    (e163 : PySem.W.hasDictIn K C148 = true)
    (e164 : PySem.W.ks_superIn K C148 C148 "__init__" = some (some (.builtin "ValueError.__init__")))
    (e165 : PySem.W.mroIn K C148 (.ref C148) = some true)
    (e166 : PySem.W.exmOne K (.ref C148) (.ref C148) = some true)
    (e167 : K.lookup f150 = some ⟨oc151, od151, .func (PySem.W.ksFn "__init__" "NoBlock.__init__" (defArgs s_NoBlockU_initU) (defBody s_NoBlockU_initU) (defScope s_NoBlockU_initU) .none .none doc151 pm151 an151 (.ref cda151) ct151 cc151), osl151⟩)
    (e168 : PySem.W.codeIn K (.ref cda151) "NoBlock.__init__" = true)
    (e169 : K.lookup cda151 = some ⟨ccl151, cdd151, .fields vs151, ccs151⟩)
    (e170 : vs151[2]? = some (.str P.main.file tf151))
    (e171 : K.lookup cc151 = some ⟨cl151, cld151, .cell (some (.ref C148)), csl151⟩)
    (a173 : PySem.W.nsIn K mainGlobals "Waits" = some (some (.ref C172)))
    (e176 : K.lookup C172 = some (excClassObj nm175 qn175 C172 N175 bs175 bm175 true sn175 sub175 ab175 col175 dd175 k0175 k1175 k2175 k3175 k5175 "ValueError.__new__"))
    (e177 : PySem.HandSPX.refsVE bm175 = true)
    (e178 : PySem.W.findIn K (.ref C172) "__setattr__" = some (some (.builtin "object.__setattr__")))
    (e179 : PySem.W.findIn K (.ref C172) "__getattribute__" = some (some (.builtin "BaseException.__getattribute__")))
    (e180 : PySem.W.findIn K (.ref C172) "__getattr__" = some none)
    (e181 : PySem.W.findIn K (.ref C172) "__init__" = some (some (.ref f174)))
    (e182 : PySem.W.typeIn K (.ref f174) = some (.type "function"))
    (e183 : PySem.W.keepIn K (.ref C172) = true)
    (e184 : PySem.W.subIn K (.ref C172) (.type "BaseException") = some true)
    (e185 : PySem.W.subIn K (.ref C172) (.type "ValueError") = some true)
    (e186 : PySem.W.typeIn K (.ref C172) = some (.type "type"))
    (e187 : PySem.W.hasDictIn K C172 = true)
    (e188 : PySem.W.ks_superIn K C172 C172 "__init__" = some (some (.builtin "ValueError.__init__")))
    (e189 : PySem.W.mroIn K C172 (.ref C172) = some true)
    (e190 : PySem.W.exmOne K (.ref C172) (.ref C172) = some true)
    (e191 : K.lookup f174 = some ⟨oc175, od175, .func (PySem.W.ksFn "__init__" "Waits.__init__" (defArgs s_WaitsU_initU) (defBody s_WaitsU_initU) (defScope s_WaitsU_initU) .none .none doc175 pm175 an175 (.ref cda175) ct175 cc175), osl175⟩)
    (e192 : PySem.W.codeIn K (.ref cda175) "Waits.__init__" = true)
    (e193 : K.lookup cda175 = some ⟨ccl175, cdd175, .fields vs175, ccs175⟩)
    (e194 : vs175[2]? = some (.str P.main.file tf175))
    (e195 : K.lookup cc175 = some ⟨cl175, cld175, .cell (some (.ref C172)), csl175⟩)
    (e196 : PySem.W.findIn K (.ref C172) "word" = some none)
    (e197 : PySem.W.findIn K (.ref C172) "record" = some none)
    (a199 : PySem.W.nsIn K mainGlobals "NoRecord" = some (some (.ref C198)))
    (e202 : K.lookup C198 = some (excClassObj nm201 qn201 C198 N201 bs201 bm201 true sn201 sub201 ab201 col201 dd201 k0201 k1201 k2201 k3201 k5201 "ValueError.__new__"))
    (e203 : PySem.HandSPX.refsVE bm201 = true)
    (e204 : PySem.W.findIn K (.ref C198) "__setattr__" = some (some (.builtin "object.__setattr__")))
    (e205 : PySem.W.findIn K (.ref C198) "__getattribute__" = some (some (.builtin "BaseException.__getattribute__")))
    (e206 : PySem.W.findIn K (.ref C198) "__getattr__" = some none)
    (e207 : PySem.W.findIn K (.ref C198) "__init__" = some (some (.ref f200)))
    (e208 : PySem.W.typeIn K (.ref f200) = some (.type "function"))
    (e209 : PySem.W.keepIn K (.ref C198) = true)
    (e210 : PySem.W.subIn K (.ref C198) (.type "BaseException") = some true)
    (e211 : PySem.W.subIn K (.ref C198) (.type "ValueError") = some true)
    (e212 : PySem.W.typeIn K (.ref C198) = some (.type "type"))
    (e213 : PySem.W.hasDictIn K C198 = true)
    (e214 : PySem.W.ks_superIn K C198 C198 "__init__" = some (some (.builtin "ValueError.__init__")))
    (e215 : PySem.W.mroIn K C198 (.ref C198) = some true)
    (e216 : PySem.W.exmOne K (.ref C198) (.ref C198) = some true)
    (e217 : K.lookup f200 = some ⟨oc201, od201, .func (PySem.W.ksFn "__init__" "NoRecord.__init__" (defArgs s_NoRecordU_initU) (defBody s_NoRecordU_initU) (defScope s_NoRecordU_initU) .none .none doc201 pm201 an201 (.ref cda201) ct201 cc201), osl201⟩)
    (e218 : PySem.W.codeIn K (.ref cda201) "NoRecord.__init__" = true)
    (e219 : K.lookup cda201 = some ⟨ccl201, cdd201, .fields vs201, ccs201⟩)
    (e220 : vs201[2]? = some (.str P.main.file tf201))
    (e221 : K.lookup cc201 = some ⟨cl201, cld201, .cell (some (.ref C198)), csl201⟩)
    (e222 : PySem.W.findIn K (.ref C198) "record" = some none)
    (a224 : PySem.W.nsIn K mainGlobals "BadWord" = some (some (.ref C223)))
    (e227 : K.lookup C223 = some (excClassObj nm226 qn226 C223 N226 bs226 bm226 true sn226 sub226 ab226 col226 dd226 k0226 k1226 k2226 k3226 k5226 "ValueError.__new__"))
    (e228 : PySem.HandSPX.refsVE bm226 = true)
    (e229 : PySem.W.findIn K (.ref C223) "__setattr__" = some (some (.builtin "object.__setattr__")))
    (e230 : PySem.W.findIn K (.ref C223) "__getattribute__" = some (some (.builtin "BaseException.__getattribute__")))
    (e231 : PySem.W.findIn K (.ref C223) "__getattr__" = some none)
    (e232 : PySem.W.findIn K (.ref C223) "__init__" = some (some (.ref f225)))
    (e233 : PySem.W.typeIn K (.ref f225) = some (.type "function"))
    (e234 : PySem.W.keepIn K (.ref C223) = true)
    (e235 : PySem.W.subIn K (.ref C223) (.type "BaseException") = some true)
    (e236 : PySem.W.subIn K (.ref C223) (.type "ValueError") = some true)
    (e237 : PySem.W.typeIn K (.ref C223) = some (.type "type"))
    (e238 : PySem.W.hasDictIn K C223 = true)
    (e239 : PySem.W.ks_superIn K C223 C223 "__init__" = some (some (.builtin "ValueError.__init__")))
    (e240 : PySem.W.mroIn K C223 (.ref C223) = some true)
    (e241 : PySem.W.exmOne K (.ref C223) (.ref C223) = some true)
    (e242 : K.lookup f225 = some ⟨oc226, od226, .func (PySem.W.ksFn "__init__" "BadWord.__init__" (defArgs s_BadWordU_initU) (defBody s_BadWordU_initU) (defScope s_BadWordU_initU) .none .none doc226 pm226 an226 (.ref cda226) ct226 cc226), osl226⟩)
    (e243 : PySem.W.codeIn K (.ref cda226) "BadWord.__init__" = true)
    (e244 : K.lookup cda226 = some ⟨ccl226, cdd226, .fields vs226, ccs226⟩)
    (e245 : vs226[2]? = some (.str P.main.file tf226))
    (e246 : K.lookup cc226 = some ⟨cl226, cld226, .cell (some (.ref C223)), csl226⟩)
    (e247 : PySem.W.findIn K (.ref C223) "word" = some none)
    (a249 : PySem.W.nsIn K mainGlobals "BadMode" = some (some (.ref C248)))
    (e252 : K.lookup C248 = some (excClassObj nm251 qn251 C248 N251 bs251 bm251 true sn251 sub251 ab251 col251 dd251 k0251 k1251 k2251 k3251 k5251 "ValueError.__new__"))
    (e253 : PySem.HandSPX.refsVE bm251 = true)
    (e254 : PySem.W.findIn K (.ref C248) "__setattr__" = some (some (.builtin "object.__setattr__")))
    (e255 : PySem.W.findIn K (.ref C248) "__getattribute__" = some (some (.builtin "BaseException.__getattribute__")))
    (e256 : PySem.W.findIn K (.ref C248) "__getattr__" = some none)
    (e257 : PySem.W.findIn K (.ref C248) "__init__" = some (some (.ref f250)))
    (e258 : PySem.W.typeIn K (.ref f250) = some (.type "function"))
    (e259 : PySem.W.keepIn K (.ref C248) = true)
    (e260 : PySem.W.subIn K (.ref C248) (.type "BaseException") = some true)
    (e261 : PySem.W.subIn K (.ref C248) (.type "ValueError") = some true)
    (e262 : PySem.W.typeIn K (.ref C248) = some (.type "type"))
    (e263 : PySem.W.hasDictIn K C248 = true)
    (e264 : PySem.W.ks_superIn K C248 C248 "__init__" = some (some (.builtin "ValueError.__init__")))
    (e265 : PySem.W.mroIn K C248 (.ref C248) = some true)
    (e266 : PySem.W.exmOne K (.ref C248) (.ref C248) = some true)
    (e267 : K.lookup f250 = some ⟨oc251, od251, .func (PySem.W.ksFn "__init__" "BadMode.__init__" (defArgs s_BadModeU_initU) (defBody s_BadModeU_initU) (defScope s_BadModeU_initU) .none .none doc251 pm251 an251 (.ref cda251) ct251 cc251), osl251⟩)
    (e268 : PySem.W.codeIn K (.ref cda251) "BadMode.__init__" = true)
    (e269 : K.lookup cda251 = some ⟨ccl251, cdd251, .fields vs251, ccs251⟩)
    (e270 : vs251[2]? = some (.str P.main.file tf251))
    (e271 : K.lookup cc251 = some ⟨cl251, cld251, .cell (some (.ref C248)), csl251⟩)
    (e272 : PySem.W.findIn K (.ref C248) "mode" = some none)
    (a274 : PySem.W.nsIn K mainGlobals "Write" = some (some (.ref C273)))
    (q275 : PySem.W.plainGet K C273 Str.empty = true)
    (q276 : PySem.W.hasDictIn K C273 = true)
    (q277 : PySem.W.plainOver K C273 = true)
    (q278 : PySem.W.findIn K (.ref C273) "__setattr__" = some (some (.builtin "object.__setattr__")))
    (z279 : PySem.W.findIn K (.ref C273) "record" = some none)
    (z280 : PySem.W.findIn K (.ref C273) "value" = some none)
    (z281 : PySem.W.findIn K (.ref C273) "fate" = some none)
    (z282 : PySem.W.findIn K (.ref C273) "holder" = some none)
    (z283 : PySem.W.findIn K (.ref C273) "level" = some none)
    (q285 : PySem.W.makesIn K C273 = true)
    (q286 : PySem.W.findIn K (.ref C273) "__init__" = some (some (.ref f284)))
    (q287 : PySem.W.isFn K (.ref f284) = true)
    (q288 : PySem.W.keepIn K (.ref C273) = true)
    (l289 : K.lookup f284 = some ⟨oc289, od289, .func (PySem.W.fnOf "__init__" "Write.__init__" (defArgs s_WriteU_initU) (defBody s_WriteU_initU) (defScope s_WriteU_initU) .none kV289 dc289 pm289 an289 cd289 ct289), sl289⟩)
    (c289 : PySem.W.codeIn K cd289 "Write.__init__" = true)
    (k289 : PySem.W.keepIn K (.ref f284) = true)
    (a291 : PySem.W.nsIn K mainGlobals "Transaction" = some (some (.ref C290)))
    (q292 : PySem.W.plainGet K C290 Str.empty = true)
    (q293 : PySem.W.hasDictIn K C290 = true)
    (q294 : PySem.W.plainOver K C290 = true)
    (q295 : PySem.W.findIn K (.ref C290) "__setattr__" = some (some (.builtin "object.__setattr__")))
    (z296 : PySem.W.findIn K (.ref C290) "number" = some none)
    (z297 : PySem.W.findIn K (.ref C290) "reasons" = some none)
    (q299 : PySem.W.makesIn K C290 = true)
    (q300 : PySem.W.findIn K (.ref C290) "__init__" = some (some (.ref f298)))
    (q301 : PySem.W.isFn K (.ref f298) = true)
    (q302 : PySem.W.keepIn K (.ref C290) = true)
    (l303 : K.lookup f298 = some ⟨oc303, od303, .func (PySem.W.fnOf "__init__" "Transaction.__init__" (defArgs s_TransactionU_initU) (defBody s_TransactionU_initU) (defScope s_TransactionU_initU) .none kV303 dc303 pm303 an303 cd303 ct303), sl303⟩)
    (c303 : PySem.W.codeIn K cd303 "Transaction.__init__" = true)
    (k303 : PySem.W.keepIn K (.ref f298) = true)
    (a305 : PySem.W.nsIn K mainGlobals "Database" = some (some (.ref C304)))
    (q306 : PySem.W.plainGet K C304 Str.empty = true)
    (q307 : PySem.W.hasDictIn K C304 = true)
    (q308 : PySem.W.plainOver K C304 = true)
    (q309 : PySem.W.findIn K (.ref C304) "__setattr__" = some (some (.builtin "object.__setattr__")))
    (z310 : PySem.W.findIn K (.ref C304) "rows" = some none)
    (z311 : PySem.W.findIn K (.ref C304) "stack" = some none)
    (z312 : PySem.W.findIn K (.ref C304) "entered" = some none)
    (z313 : PySem.W.findIn K (.ref C304) "floor" = some none)
    (z314 : PySem.W.findIn K (.ref C304) "opened" = some none)
    (q316 : PySem.W.makesIn K C304 = true)
    (q317 : PySem.W.findIn K (.ref C304) "__init__" = some (some (.ref f315)))
    (q318 : PySem.W.isFn K (.ref f315) = true)
    (q319 : PySem.W.keepIn K (.ref C304) = true)
    (l320 : K.lookup f315 = some ⟨oc320, od320, .func (PySem.W.fnOf "__init__" "Database.__init__" (defArgs s_DatabaseU_initU) (defBody s_DatabaseU_initU) (defScope s_DatabaseU_initU) .none kV320 dc320 pm320 an320 cd320 ct320), sl320⟩)
    (c320 : PySem.W.codeIn K cd320 "Database.__init__" = true)
    (k320 : PySem.W.keepIn K (.ref f315) = true)
    (q322 : PySem.W.findIn K (.ref C304) "begin" = some (some (.ref f321)))
    (q323 : PySem.W.isFn K (.ref f321) = true)
    (l324 : K.lookup f321 = some ⟨oc324, od324, .func (PySem.W.fnOf "begin" "Database.begin" (defArgs s_Database_begin) (defBody s_Database_begin) (defScope s_Database_begin) .none kV324 dc324 pm324 an324 cd324 ct324), sl324⟩)
    (c324 : PySem.W.codeIn K cd324 "Database.begin" = true)
    (k324 : PySem.W.keepIn K (.ref f321) = true)
    (q326 : PySem.W.findIn K (.ref C304) "enter_alone" = some (some (.ref f325)))
    (q327 : PySem.W.isFn K (.ref f325) = true)
    (l328 : K.lookup f325 = some ⟨oc328, od328, .func (PySem.W.fnOf "enter_alone" "Database.enter_alone" (defArgs s_Database_enter_alone) (defBody s_Database_enter_alone) (defScope s_Database_enter_alone) .none kV328 dc328 pm328 an328 cd328 ct328), sl328⟩)
    (c328 : PySem.W.codeIn K cd328 "Database.enter_alone" = true)
    (k328 : PySem.W.keepIn K (.ref f325) = true)
    (q330 : PySem.W.findIn K (.ref C304) "enter_inside" = some (some (.ref f329)))
    (q331 : PySem.W.isFn K (.ref f329) = true)
    (l332 : K.lookup f329 = some ⟨oc332, od332, .func (PySem.W.fnOf "enter_inside" "Database.enter_inside" (defArgs s_Database_enter_inside) (defBody s_Database_enter_inside) (defScope s_Database_enter_inside) .none kV332 dc332 pm332 an332 cd332 ct332), sl332⟩)
    (c332 : PySem.W.codeIn K cd332 "Database.enter_inside" = true)
    (k332 : PySem.W.keepIn K (.ref f329) = true)
    (q334 : PySem.W.findIn K (.ref C304) "enter" = some (some (.ref f333)))
    (q335 : PySem.W.isFn K (.ref f333) = true)
    (l336 : K.lookup f333 = some ⟨oc336, od336, .func (PySem.W.fnOf "enter" "Database.enter" (defArgs s_Database_enter) (defBody s_Database_enter) (defScope s_Database_enter) .none kV336 dc336 pm336 an336 cd336 ct336), sl336⟩)
    (c336 : PySem.W.codeIn K cd336 "Database.enter" = true)
    (k336 : PySem.W.keepIn K (.ref f333) = true)
    (q338 : PySem.W.findIn K (.ref C304) "doom" = some (some (.ref f337)))
    (q339 : PySem.W.isFn K (.ref f337) = true)
    (l340 : K.lookup f337 = some ⟨oc340, od340, .func (PySem.W.fnOf "doom" "Database.doom" (defArgs s_Database_doom) (defBody s_Database_doom) (defScope s_Database_doom) (.ref T341) kV340 dc340 pm340 an340 cd340 ct340), sl340⟩)
    (c340 : PySem.W.codeIn K cd340 "Database.doom" = true)
    (k340 : PySem.W.keepIn K (.ref f337) = true)
    (lT347 : K.lookup T341 = some ⟨oc342, od343, .seq #[.str "doom" t346] on344, os345⟩)
    (q349 : PySem.W.findIn K (.ref C304) "end_level" = some (some (.ref f348)))
    (q350 : PySem.W.isFn K (.ref f348) = true)
    (l351 : K.lookup f348 = some ⟨oc351, od351, .func (PySem.W.fnOf "end_level" "Database.end_level" (defArgs s_Database_end_level) (defBody s_Database_end_level) (defScope s_Database_end_level) .none kV351 dc351 pm351 an351 cd351 ct351), sl351⟩)
    (c351 : PySem.W.codeIn K cd351 "Database.end_level" = true)
    (k351 : PySem.W.keepIn K (.ref f348) = true)
    (q353 : PySem.W.findIn K (.ref C304) "end_transaction" = some (some (.ref f352)))
    (q354 : PySem.W.isFn K (.ref f352) = true)
    (l355 : K.lookup f352 = some ⟨oc355, od355, .func (PySem.W.fnOf "end_transaction" "Database.end_transaction" (defArgs s_Database_end_transaction) (defBody s_Database_end_transaction) (defScope s_Database_end_transaction) .none kV355 dc355 pm355 an355 cd355 ct355), sl355⟩)
    (c355 : PySem.W.codeIn K cd355 "Database.end_transaction" = true)
    (k355 : PySem.W.keepIn K (.ref f352) = true)
    (q357 : PySem.W.findIn K (.ref C304) "leave" = some (some (.ref f356)))
    (q358 : PySem.W.isFn K (.ref f356) = true)
    (l359 : K.lookup f356 = some ⟨oc359, od359, .func (PySem.W.fnOf "leave" "Database.leave" (defArgs s_Database_leave) (defBody s_Database_leave) (defScope s_Database_leave) (.ref T360) (.ref D367) dc359 pm359 an359 cd359 ct359), sl359⟩)
    (c359 : PySem.W.codeIn K cd359 "Database.leave" = true)
    (k359 : PySem.W.keepIn K (.ref f356) = true)
    (lT366 : K.lookup T360 = some ⟨oc361, od362, .seq #[.none] on363, os364⟩)
    (z369 : PySem.W.nsIn K D367 "commits" = some (some (.bool true)))
    (q371 : PySem.W.findIn K (.ref C304) "held_by" = some (some (.ref f370)))
    (q372 : PySem.W.isFn K (.ref f370) = true)
    (l373 : K.lookup f370 = some ⟨oc373, od373, .func (PySem.W.fnOf "held_by" "Database.held_by" (defArgs s_Database_held_by) (defBody s_Database_held_by) (defScope s_Database_held_by) .none kV373 dc373 pm373 an373 cd373 ct373), sl373⟩)
    (c373 : PySem.W.codeIn K cd373 "Database.held_by" = true)
    (k373 : PySem.W.keepIn K (.ref f370) = true)
    (q375 : PySem.W.findIn K (.ref C304) "outer_records" = some (some (.ref f374)))
    (q376 : PySem.W.isFn K (.ref f374) = true)
    (l377 : K.lookup f374 = some ⟨oc377, od377, .func (PySem.W.fnOf "outer_records" "Database.outer_records" (defArgs s_Database_outer_records) (defBody s_Database_outer_records) (defScope s_Database_outer_records) .none kV377 dc377 pm377 an377 cd377 ct377), sl377⟩)
    (c377 : PySem.W.codeIn K cd377 "Database.outer_records" = true)
    (k377 : PySem.W.keepIn K (.ref f374) = true)
    (q379 : PySem.W.findIn K (.ref C304) "would_wait" = some (some (.ref f378)))
    (q380 : PySem.W.isFn K (.ref f378) = true)
    (l381 : K.lookup f378 = some ⟨oc381, od381, .func (PySem.W.fnOf "would_wait" "Database.would_wait" (defArgs s_Database_would_wait) (defBody s_Database_would_wait) (defScope s_Database_would_wait) .none kV381 dc381 pm381 an381 cd381 ct381), sl381⟩)
    (c381 : PySem.W.codeIn K cd381 "Database.would_wait" = true)
    (k381 : PySem.W.keepIn K (.ref f378) = true)
    (q383 : PySem.W.findIn K (.ref C304) "write" = some (some (.ref f382)))
    (q384 : PySem.W.isFn K (.ref f382) = true)
    (l385 : K.lookup f382 = some ⟨oc385, od385, .func (PySem.W.fnOf "write" "Database.write" (defArgs s_Database_write) (defBody s_Database_write) (defScope s_Database_write) .none kV385 dc385 pm385 an385 cd385 ct385), sl385⟩)
    (c385 : PySem.W.codeIn K cd385 "Database.write" = true)
    (k385 : PySem.W.keepIn K (.ref f382) = true)
    (q387 : PySem.W.findIn K (.ref C304) "__setitem__" = some (some (.ref f386)))
    (q388 : PySem.W.isFn K (.ref f386) = true)
    (l389 : K.lookup f386 = some ⟨oc389, od389, .func (PySem.W.fnOf "__setitem__" "Database.__setitem__" (defArgs s_DatabaseU_setitemU) (defBody s_DatabaseU_setitemU) (defScope s_DatabaseU_setitemU) .none kV389 dc389 pm389 an389 cd389 ct389), sl389⟩)
    (c389 : PySem.W.codeIn K cd389 "Database.__setitem__" = true)
    (k389 : PySem.W.keepIn K (.ref f386) = true)
    (q391 : PySem.W.findIn K (.ref C304) "sees" = some (some (.ref f390)))
    (q392 : PySem.W.isFn K (.ref f390) = true)
    (l393 : K.lookup f390 = some ⟨oc393, od393, .func (PySem.W.fnOf "sees" "Database.sees" (defArgs s_Database_sees) (defBody s_Database_sees) (defScope s_Database_sees) .none kV393 dc393 pm393 an393 cd393 ct393), sl393⟩)
    (c393 : PySem.W.codeIn K cd393 "Database.sees" = true)
    (k393 : PySem.W.keepIn K (.ref f390) = true)
    (q395 : PySem.W.findIn K (.ref C304) "__getitem__" = some (some (.ref f394)))
    (q396 : PySem.W.isFn K (.ref f394) = true)
    (l397 : K.lookup f394 = some ⟨oc397, od397, .func (PySem.W.fnOf "__getitem__" "Database.__getitem__" (defArgs s_DatabaseU_getitemU) (defBody s_DatabaseU_getitemU) (defScope s_DatabaseU_getitemU) .none kV397 dc397 pm397 an397 cd397 ct397), sl397⟩)
    (c397 : PySem.W.codeIn K cd397 "Database.__getitem__" = true)
    (k397 : PySem.W.keepIn K (.ref f394) = true)
    (q399 : PySem.W.findIn K (.ref C304) "__contains__" = some (some (.ref f398)))
    (q400 : PySem.W.isFn K (.ref f398) = true)
    (l401 : K.lookup f398 = some ⟨oc401, od401, .func (PySem.W.fnOf "__contains__" "Database.__contains__" (defArgs s_DatabaseU_containsU) (defBody s_DatabaseU_containsU) (defScope s_DatabaseU_containsU) .none kV401 dc401 pm401 an401 cd401 ct401), sl401⟩)
    (c401 : PySem.W.codeIn K cd401 "Database.__contains__" = true)
    (k401 : PySem.W.keepIn K (.ref f398) = true)
    (z402 : PySem.W.noSeq K C304 = true)
    (a404 : PySem.W.nsIn K mainGlobals "_law_pool" = some (some (.ref f403)))
    (l405 : K.lookup f403 = some ⟨oc405, od405, .func (PySem.W.fnOf "_law_pool" "_law_pool" (defArgs s_law_pool) (defBody s_law_pool) (defScope s_law_pool) .none kV405 dc405 pm405 an405 cd405 ct405), sl405⟩)
    (c405 : PySem.W.codeIn K cd405 "_law_pool" = true)
    (k405 : PySem.W.keepIn K (.ref f403) = true)
    (a407 : PySem.W.nsIn K mainGlobals "_law_draw" = some (some (.ref f406)))
    (l408 : K.lookup f406 = some ⟨oc408, od408, .func (PySem.W.fnOf "_law_draw" "_law_draw" (defArgs s_law_draw) (defBody s_law_draw) (defScope s_law_draw) .none kV408 dc408 pm408 an408 cd408 ct408), sl408⟩)
    (c408 : PySem.W.codeIn K cd408 "_law_draw" = true)
    (k408 : PySem.W.keepIn K (.ref f406) = true)
    (a410 : PySem.W.nsIn K mainGlobals "_law_word" = some (some (.ref f409)))
    (l411 : K.lookup f409 = some ⟨oc411, od411, .func (PySem.W.fnOf "_law_word" "_law_word" (defArgs s_law_word) (defBody s_law_word) (defScope s_law_word) .none kV411 dc411 pm411 an411 cd411 ct411), sl411⟩)
    (c411 : PySem.W.codeIn K cd411 "_law_word" = true)
    (k411 : PySem.W.keepIn K (.ref f409) = true)
    (a413 : PySem.W.nsIn K mainGlobals "_law_seen" = some (some (.ref f412)))
    (l414 : K.lookup f412 = some ⟨oc414, od414, .func (PySem.W.fnOf "_law_seen" "_law_seen" (defArgs s_law_seen) (defBody s_law_seen) (defScope s_law_seen) .none kV414 dc414 pm414 an414 cd414 ct414), sl414⟩)
    (c414 : PySem.W.codeIn K cd414 "_law_seen" = true)
    (k414 : PySem.W.keepIn K (.ref f412) = true)
    (a416 : PySem.W.nsIn K mainGlobals "_law_odd" = some (some (.ref f415)))
    (l417 : K.lookup f415 = some ⟨oc417, od417, .func (PySem.W.fnOf "_law_odd" "_law_odd" (defArgs s_law_odd) (defBody s_law_odd) (defScope s_law_odd) .none kV417 dc417 pm417 an417 cd417 ct417), sl417⟩)
    (c417 : PySem.W.codeIn K cd417 "_law_odd" = true)
    (k417 : PySem.W.keepIn K (.ref f415) = true)
    (a419 : PySem.W.nsIn K mainGlobals "_law_deed" = some (some (.ref f418)))
    (l420 : K.lookup f418 = some ⟨oc420, od420, .func (PySem.W.fnOf "_law_deed" "_law_deed" (defArgs s_law_deed) (defBody s_law_deed) (defScope s_law_deed) .none kV420 dc420 pm420 an420 cd420 ct420), sl420⟩)
    (c420 : PySem.W.codeIn K cd420 "_law_deed" = true)
    (k420 : PySem.W.keepIn K (.ref f418) = true)
    (l421 : K.lookup fa = some ⟨oc421, od421, .func (PySem.W.fnOf "law" "law" (defArgs s_law) (defBody s_law) (defScope s_law) .none kV421 dc421 pm421 an421 cd421 ct421), sl421⟩)
    (c421 : PySem.W.codeIn K cd421 "law" = true)
    (k421 : PySem.W.keepIn K (.ref fa) = true)
    (z422 : PySem.W.nsIn K mainGlobals "isinstance" = some none)
    (z423 : PySem.W.nsIn K mainGlobals "str" = some none)
    (z424 : PySem.W.nsIn K mainGlobals "len" = some none)
    (z425 : PySem.W.nsIn K mainGlobals "super" = some none)
    (z426 : PySem.W.nsIn K mainGlobals "sorted" = some none)
    (z427 : PySem.W.nsIn K mainGlobals "abs" = some none)
    (z428 : PySem.W.nsIn K mainGlobals "int" = some none)
    (z429 : PySem.W.nsIn K mainGlobals "range" = some none)
    (z430 : PySem.W.nsIn K mainGlobals "bool" = some none)
    (z431 : PySem.W.nsIn K mainGlobals "max" = some none)
    (z432 : PySem.W.nsIn K mainGlobals "min" = some none)
    (z433 : PySem.W.fnIn K f394 = true)
    : ∃ fd : FuncData, (∀ (s : Shared) (v : Value), BindsTo s fd ⟨[v], []⟩ [("_law_script", v)]) ∧ ∀ base : Heap, K.In base → base.Ns mainGlobals mg → FnOk P w K mg base CX0 9 fa fd ["_law_script"] (spLaw K) := by
  have F40 := fun_mk (st := s_Mode_is_mode) l40 c40 k40
  have b40 := F40.binds (ps := ["thing"]) fun _ _ _ _ _ _ us hl => match us, hl with | [_], _ => rfl
  have F43 := fun_mk (st := s_is_word) l43 c43 k43
  have b43 := F43.binds (ps := ["thing"]) fun _ _ _ _ _ _ us hl => match us, hl with | [_], _ => rfl
  have F289 := fun_mk (st := s_WriteU_initU) l289 c289 k289
  have b289 := F289.binds (ps := ["self", "record", "value", "fate", "holder", "level"]) fun _ _ _ _ _ _ us hl => match us, hl with | [_, _, _, _, _, _], _ => rfl
  have F303 := fun_mk (st := s_TransactionU_initU) l303 c303 k303
  have b303 := F303.binds (ps := ["self", "number"]) fun _ _ _ _ _ _ us hl => match us, hl with | [_, _], _ => rfl
  have F320 := fun_mk (st := s_DatabaseU_initU) l320 c320 k320
  have b320 := F320.binds (ps := ["self"]) fun _ _ _ _ _ _ us hl => match us, hl with | [_], _ => rfl
  have F324 := fun_mk (st := s_Database_begin) l324 c324 k324
  have b324 := F324.binds (ps := ["self"]) fun _ _ _ _ _ _ us hl => match us, hl with | [_], _ => rfl
  have F328 := fun_mk (st := s_Database_enter_alone) l328 c328 k328
  have b328 := F328.binds (ps := ["self", "mode"]) fun _ _ _ _ _ _ us hl => match us, hl with | [_, _], _ => rfl
  have F332 := fun_mk (st := s_Database_enter_inside) l332 c332 k332
  have b332 := F332.binds (ps := ["self", "mode", "present"]) fun _ _ _ _ _ _ us hl => match us, hl with | [_, _, _], _ => rfl
  have F336 := fun_mk (st := s_Database_enter) l336 c336 k336
  have b336 := F336.binds (ps := ["self", "mode"]) fun _ _ _ _ _ _ us hl => match us, hl with | [_, _], _ => rfl
  have F340 : FunD K "doom" "Database.doom" (defArgs s_Database_doom) (defBody s_Database_doom) (defScope s_Database_doom) [.str "doom"] []  f337 (PySem.W.fnOf "doom" "Database.doom" (defArgs s_Database_doom) (defBody s_Database_doom) (defScope s_Database_doom) (.ref T341) kV340 dc340 pm340 an340 cd340 ct340) := ⟨⟨_, _, _, _, _, _, _, _, _, _, rfl, l340, c340, .inr ⟨by decide, _, _, _, _, rfl, lT347, rfl, (.cons ⟨_, rfl⟩ .nil)⟩, .inl rfl⟩, k340⟩
  have F351 := fun_mk (st := s_Database_end_level) l351 c351 k351
  have b351 := F351.binds (ps := ["self", "error"]) fun _ _ _ _ _ _ us hl => match us, hl with | [_, _], _ => rfl
  have F355 := fun_mk (st := s_Database_end_transaction) l355 c355 k355
  have b355 := F355.binds (ps := ["self", "error", "commits"]) fun _ _ _ _ _ _ us hl => match us, hl with | [_, _, _], _ => rfl
  have F359 : FunD K "leave" "Database.leave" (defArgs s_Database_leave) (defBody s_Database_leave) (defScope s_Database_leave) [.non] [("commits", .bl true)]  f356 (PySem.W.fnOf "leave" "Database.leave" (defArgs s_Database_leave) (defBody s_Database_leave) (defScope s_Database_leave) (.ref T360) (.ref D367) dc359 pm359 an359 cd359 ct359) := ⟨⟨_, _, _, _, _, _, _, _, _, _, rfl, l359, c359, .inr ⟨by decide, _, _, _, _, rfl, lT366, rfl, (.cons rfl .nil)⟩, .inr ⟨_, rfl, fun q hq => by
      rcases List.mem_cons.mp hq with rfl | hq
      · exact ⟨_, z369, rfl⟩
      · exact absurd hq (by simp)⟩⟩, k359⟩
  have F373 := fun_mk (st := s_Database_held_by) l373 c373 k373
  have b373 := F373.binds (ps := ["self", "numbers"]) fun _ _ _ _ _ _ us hl => match us, hl with | [_, _], _ => rfl
  have F377 := fun_mk (st := s_Database_outer_records) l377 c377 k377
  have b377 := F377.binds (ps := ["self"]) fun _ _ _ _ _ _ us hl => match us, hl with | [_], _ => rfl
  have F381 := fun_mk (st := s_Database_would_wait) l381 c381 k381
  have b381 := F381.binds (ps := ["self", "record"]) fun _ _ _ _ _ _ us hl => match us, hl with | [_, _], _ => rfl
  have F385 := fun_mk (st := s_Database_write) l385 c385 k385
  have b385 := F385.binds (ps := ["self", "record", "value"]) fun _ _ _ _ _ _ us hl => match us, hl with | [_, _, _], _ => rfl
  have F389 := fun_mk (st := s_DatabaseU_setitemU) l389 c389 k389
  have b389 := F389.binds (ps := ["self", "record", "value"]) fun _ _ _ _ _ _ us hl => match us, hl with | [_, _, _], _ => rfl
  have F393 := fun_mk (st := s_Database_sees) l393 c393 k393
  have b393 := F393.binds (ps := ["self", "row"]) fun _ _ _ _ _ _ us hl => match us, hl with | [_, _], _ => rfl
  have F397 := fun_mk (st := s_DatabaseU_getitemU) l397 c397 k397
  have b397 := F397.binds (ps := ["self", "record"]) fun _ _ _ _ _ _ us hl => match us, hl with | [_, _], _ => rfl
  have F401 := fun_mk (st := s_DatabaseU_containsU) l401 c401 k401
  have b401 := F401.binds (ps := ["self", "record"]) fun _ _ _ _ _ _ us hl => match us, hl with | [_, _], _ => rfl
  have F405 := fun_mk (st := s_law_pool) l405 c405 k405
  have b405 := F405.binds (ps := ["_law_script", "_law_at"]) fun _ _ _ _ _ _ us hl => match us, hl with | [_, _], _ => rfl
  have F408 := fun_mk (st := s_law_draw) l408 c408 k408
  have b408 := F408.binds (ps := ["_law_pool_here", "_law_many"]) fun _ _ _ _ _ _ us hl => match us, hl with | [_, _], _ => rfl
  have F411 := fun_mk (st := s_law_word) l411 c411 k411
  have b411 := F411.binds (ps := ["_law_pool_here"]) fun _ _ _ _ _ _ us hl => match us, hl with | [_], _ => rfl
  have F414 := fun_mk (st := s_law_seen) l414 c414 k414
  have b414 := F414.binds (ps := ["_law_db", "_law_record", "_law_due"]) fun _ _ _ _ _ _ us hl => match us, hl with | [_, _, _], _ => rfl
  have F417 := fun_mk (st := s_law_odd) l417 c417 k417
  have b417 := F417.binds (ps := ["_law_db", "_law_thing"]) fun _ _ _ _ _ _ us hl => match us, hl with | [_, _], _ => rfl
  have F420 := fun_mk (st := s_law_deed) l420 c420 k420
  have b420 := F420.binds (ps := ["_law_pool_here", "_law_db", "_law_values", "_law_depth"]) fun _ _ _ _ _ _ us hl => match us, hl with | [_, _, _, _], _ => rfl
  have F421 := fun_mk (st := s_law) l421 c421 k421
  have b421 := F421.binds (ps := ["_law_script"]) fun _ _ _ _ _ _ us hl => match us, hl with | [_], _ => rfl
  have T : Txt K mg ⟨C1, p22, f35, p36, f41, C45, f47, C71, f73, C97, f99, C123, f125, C148, f150, C172, f174, C198, f200, C223, f225, C248, f250, C273, f284, C290, f298, C304, f315, f321, f325, f329, f333, f337, f348, f352, f356, f370, f374, f378, f382, f386, f390, f394, f398, f403, f406, f409, f412, f415, f418, fa⟩ ⟨PySem.W.fnOf "is_mode" "Mode.is_mode" (defArgs s_Mode_is_mode) (defBody s_Mode_is_mode) (defScope s_Mode_is_mode) .none kV40 dc40 pm40 an40 cd40 ct40, PySem.W.fnOf "is_word" "is_word" (defArgs s_is_word) (defBody s_is_word) (defScope s_is_word) .none kV43 dc43 pm43 an43 cd43 ct43, PySem.W.fnOf "__init__" "Write.__init__" (defArgs s_WriteU_initU) (defBody s_WriteU_initU) (defScope s_WriteU_initU) .none kV289 dc289 pm289 an289 cd289 ct289, PySem.W.fnOf "__init__" "Transaction.__init__" (defArgs s_TransactionU_initU) (defBody s_TransactionU_initU) (defScope s_TransactionU_initU) .none kV303 dc303 pm303 an303 cd303 ct303, PySem.W.fnOf "__init__" "Database.__init__" (defArgs s_DatabaseU_initU) (defBody s_DatabaseU_initU) (defScope s_DatabaseU_initU) .none kV320 dc320 pm320 an320 cd320 ct320, PySem.W.fnOf "begin" "Database.begin" (defArgs s_Database_begin) (defBody s_Database_begin) (defScope s_Database_begin) .none kV324 dc324 pm324 an324 cd324 ct324, PySem.W.fnOf "enter_alone" "Database.enter_alone" (defArgs s_Database_enter_alone) (defBody s_Database_enter_alone) (defScope s_Database_enter_alone) .none kV328 dc328 pm328 an328 cd328 ct328, PySem.W.fnOf "enter_inside" "Database.enter_inside" (defArgs s_Database_enter_inside) (defBody s_Database_enter_inside) (defScope s_Database_enter_inside) .none kV332 dc332 pm332 an332 cd332 ct332, PySem.W.fnOf "enter" "Database.enter" (defArgs s_Database_enter) (defBody s_Database_enter) (defScope s_Database_enter) .none kV336 dc336 pm336 an336 cd336 ct336, PySem.W.fnOf "doom" "Database.doom" (defArgs s_Database_doom) (defBody s_Database_doom) (defScope s_Database_doom) (.ref T341) kV340 dc340 pm340 an340 cd340 ct340, PySem.W.fnOf "end_level" "Database.end_level" (defArgs s_Database_end_level) (defBody s_Database_end_level) (defScope s_Database_end_level) .none kV351 dc351 pm351 an351 cd351 ct351, PySem.W.fnOf "end_transaction" "Database.end_transaction" (defArgs s_Database_end_transaction) (defBody s_Database_end_transaction) (defScope s_Database_end_transaction) .none kV355 dc355 pm355 an355 cd355 ct355, PySem.W.fnOf "leave" "Database.leave" (defArgs s_Database_leave) (defBody s_Database_leave) (defScope s_Database_leave) (.ref T360) (.ref D367) dc359 pm359 an359 cd359 ct359, PySem.W.fnOf "held_by" "Database.held_by" (defArgs s_Database_held_by) (defBody s_Database_held_by) (defScope s_Database_held_by) .none kV373 dc373 pm373 an373 cd373 ct373, PySem.W.fnOf "outer_records" "Database.outer_records" (defArgs s_Database_outer_records) (defBody s_Database_outer_records) (defScope s_Database_outer_records) .none kV377 dc377 pm377 an377 cd377 ct377, PySem.W.fnOf "would_wait" "Database.would_wait" (defArgs s_Database_would_wait) (defBody s_Database_would_wait) (defScope s_Database_would_wait) .none kV381 dc381 pm381 an381 cd381 ct381, PySem.W.fnOf "write" "Database.write" (defArgs s_Database_write) (defBody s_Database_write) (defScope s_Database_write) .none kV385 dc385 pm385 an385 cd385 ct385, PySem.W.fnOf "__setitem__" "Database.__setitem__" (defArgs s_DatabaseU_setitemU) (defBody s_DatabaseU_setitemU) (defScope s_DatabaseU_setitemU) .none kV389 dc389 pm389 an389 cd389 ct389, PySem.W.fnOf "sees" "Database.sees" (defArgs s_Database_sees) (defBody s_Database_sees) (defScope s_Database_sees) .none kV393 dc393 pm393 an393 cd393 ct393, PySem.W.fnOf "__getitem__" "Database.__getitem__" (defArgs s_DatabaseU_getitemU) (defBody s_DatabaseU_getitemU) (defScope s_DatabaseU_getitemU) .none kV397 dc397 pm397 an397 cd397 ct397, PySem.W.fnOf "__contains__" "Database.__contains__" (defArgs s_DatabaseU_containsU) (defBody s_DatabaseU_containsU) (defScope s_DatabaseU_containsU) .none kV401 dc401 pm401 an401 cd401 ct401, PySem.W.fnOf "_law_pool" "_law_pool" (defArgs s_law_pool) (defBody s_law_pool) (defScope s_law_pool) .none kV405 dc405 pm405 an405 cd405 ct405, PySem.W.fnOf "_law_draw" "_law_draw" (defArgs s_law_draw) (defBody s_law_draw) (defScope s_law_draw) .none kV408 dc408 pm408 an408 cd408 ct408, PySem.W.fnOf "_law_word" "_law_word" (defArgs s_law_word) (defBody s_law_word) (defScope s_law_word) .none kV411 dc411 pm411 an411 cd411 ct411, PySem.W.fnOf "_law_seen" "_law_seen" (defArgs s_law_seen) (defBody s_law_seen) (defScope s_law_seen) .none kV414 dc414 pm414 an414 cd414 ct414, PySem.W.fnOf "_law_odd" "_law_odd" (defArgs s_law_odd) (defBody s_law_odd) (defScope s_law_odd) .none kV417 dc417 pm417 an417 cd417 ct417, PySem.W.fnOf "_law_deed" "_law_deed" (defArgs s_law_deed) (defBody s_law_deed) (defScope s_law_deed) .none kV420 dc420 pm420 an420 cd420 ct420, PySem.W.fnOf "law" "law" (defArgs s_law) (defBody s_law) (defScope s_law) .none kV421 dc421 pm421 an421 cd421 ct421⟩ := ⟨PySem.W.mg_of X G a2, ⟨r3, s4⟩, ⟨_, z5, ⟨_, rfl⟩⟩, ⟨_, z7, ⟨_, rfl⟩⟩, ⟨_, z9, ⟨_, rfl⟩⟩, ⟨_, z11, ⟨_, rfl⟩⟩, ⟨_, z13, ⟨_, rfl⟩⟩, ⟨_, z15, ⟨_, rfl⟩⟩, ⟨_, z17, ⟨_, rfl⟩⟩, ⟨_, z19, ⟨_, rfl⟩⟩, ⟨_, z21, rfl⟩, fun H => .inr ⟨_, _, _, l23, rfl, rfl, sz_le rfl, (.cons ⟨_, rfl⟩ (.cons ⟨_, rfl⟩ (.cons ⟨_, rfl⟩ (.cons ⟨_, rfl⟩ (.cons ⟨_, rfl⟩ (.cons ⟨_, rfl⟩ (.cons ⟨_, rfl⟩ (.cons ⟨_, rfl⟩ .nil))))))))⟩, ⟨_, l23, rfl⟩, F40, b40, ⟨z37, _, r38⟩, F43, b43, PySem.W.mg_of X G a42, PySem.W.mg_of X G a46, ec_Missing e49 e50 e51 e52 e53 e54 e55 e56 e57 e58 e59 e60 e61 e62 e63 z44 e64 e65 e66 e67 e68 e69 e70, PySem.W.mg_of X G a72, ec_Present e75 e76 e77 e78 e79 e80 e81 e82 e83 e84 e85 e86 e87 e88 e89 z44 e90 e91 e92 e93 e94 e95 e96, PySem.W.mg_of X G a98, ec_Doomed e101 e102 e103 e104 e105 e106 e107 e108 e109 e110 e111 e112 e113 e114 e115 z44 e116 e117 e118 e119 e120 e121 e122, PySem.W.mg_of X G a124, ec_Refused e127 e128 e129 e130 e131 e132 e133 e134 e135 e136 e137 e138 e139 e140 e141 z44 e142 e143 e144 e145 e146 e147, PySem.W.mg_of X G a149, ec_NoBlock e152 e153 e154 e155 e156 e157 e158 e159 e160 e161 e162 e163 e164 e165 e166 z44 e167 e168 e169 e170 e171 , PySem.W.mg_of X G a173, ec_Waits e176 e177 e178 e179 e180 e181 e182 e183 e184 e185 e186 e187 e188 e189 e190 z44 e191 e192 e193 e194 e195 e196 e197, PySem.W.mg_of X G a199, ec_NoRecord e202 e203 e204 e205 e206 e207 e208 e209 e210 e211 e212 e213 e214 e215 e216 z44 e217 e218 e219 e220 e221 e222, PySem.W.mg_of X G a224, ec_BadWord e227 e228 e229 e230 e231 e232 e233 e234 e235 e236 e237 e238 e239 e240 e241 z44 e242 e243 e244 e245 e246 e247, PySem.W.mg_of X G a249, ec_BadMode e252 e253 e254 e255 e256 e257 e258 e259 e260 e261 e262 e263 e264 e265 e266 z44 e267 e268 e269 e270 e271 e272, PySem.W.mg_of X G a274, ⟨q275, q276, q277, q278⟩, z279, z280, z281, z282, z283, F289, b289, ⟨q285, q286, q287, q288⟩, PySem.W.mg_of X G a291, ⟨q292, q293, q294, q295⟩, z296, z297, F303, b303, ⟨q299, q300, q301, q302⟩, PySem.W.mg_of X G a305, ⟨q306, q307, q308, q309⟩, z310, z311, z312, z313, z314, F320, b320, ⟨q316, q317, q318, q319⟩, F324, b324, ⟨q322, q323, k324⟩, F328, b328, ⟨q326, q327, k328⟩, F332, b332, ⟨q330, q331, k332⟩, F336, b336, ⟨q334, q335, k336⟩, F340, ⟨q338, q339, k340⟩, F351, b351, ⟨q349, q350, k351⟩, F355, b355, ⟨q353, q354, k355⟩, F359, ⟨q357, q358, k359⟩, F373, b373, ⟨q371, q372, k373⟩, F377, b377, ⟨q375, q376, k377⟩, F381, b381, ⟨q379, q380, k381⟩, F385, b385, ⟨q383, q384, k385⟩, F389, b389, ⟨q387, q388, k389⟩, F393, b393, ⟨q391, q392, k393⟩, F397, b397, ⟨q395, q396, k397⟩, F401, b401, ⟨q399, q400, k401⟩, z402, F405, b405, PySem.W.mg_of X G a404, F408, b408, PySem.W.mg_of X G a407, F411, b411, PySem.W.mg_of X G a410, F414, b414, PySem.W.mg_of X G a413, F417, b417, PySem.W.mg_of X G a416, F420, b420, PySem.W.mg_of X G a419, F421, b421, hfa, PySem.W.mg_none_of X G z422, PySem.W.mg_none_of X G z423, PySem.W.mg_none_of X G z424, PySem.W.mg_none_of X G z425, PySem.W.mg_none_of X G z426, PySem.W.mg_none_of X G z427, PySem.W.mg_none_of X G z428, PySem.W.mg_none_of X G z429, PySem.W.mg_none_of X G z430, PySem.W.mg_none_of X G z431, PySem.W.mg_none_of X G z432, z433⟩
  exact ⟨_, fun s v => .of_eq rfl, fun base _ _ => ok_law T⟩
theorem all_mk' {w : World} {K : PySem.W.Frag} {h : Heap} {mg : Str → Option Value} {fa f0 : Addr} (X : K.In h) (G : h.Ns mainGlobals mg) (hfa0 : mg "law" = some (.ref fa))
    {C1 : Addr}
    {t6 : Tok}
    {t8 : Tok}
    {t10 : Tok}
    {t12 : Tok}
    {t14 : Tok}
    {t16 : Tok}
    {t18 : Tok}
    {t20 : Tok}
    {t24 t25 t26 t27 t28 t29 t30 t31 : Tok} {p22 : Addr} {dd32 : Option Addr} {nn33 : Nat} {sl34 : Array (Option Value)}
    {f35 p36 : Addr} {rs39 : List Value}
    {od40 an40 : Option Addr} {sl40 : Array (Option Value)} {oc40 kV40 dc40 pm40 cd40 ct40 : Value}
    {f41 : Addr}
    {od43 an43 : Option Addr} {sl43 : Array (Option Value)} {oc43 kV43 dc43 pm43 cd43 ct43 : Value}
    {C45 : Addr}
    {f47 : Addr} {nm48 qn48 : Str} {N48 : Addr} {bs48 bm48 : List Value} {sn48 : List Str} {sub48 : List Value} {ab48 : Bool} {col48 : Option Bool} {dd48 : Option Addr} {k048 k148 k248 k348 k548 : Option Value}
    {oc48 : Value} {od48 : Option Addr} {doc48 pm48 : Value} {an48 : Option Addr} {cda48 cc48 : Addr} {ct48 : Value} {osl48 : Array (Option Value)} {ccl48 : Value} {cdd48 : Option Addr} {vs48 : Array Value} {ccs48 : Array (Option Value)} {tf48 : Tok} {cl48 : Value} {cld48 : Option Addr} {csl48 : Array (Option Value)}
    {C71 : Addr}
    {f73 : Addr} {nm74 qn74 : Str} {N74 : Addr} {bs74 bm74 : List Value} {sn74 : List Str} {sub74 : List Value} {ab74 : Bool} {col74 : Option Bool} {dd74 : Option Addr} {k074 k174 k274 k374 k574 : Option Value}
    {oc74 : Value} {od74 : Option Addr} {doc74 pm74 : Value} {an74 : Option Addr} {cda74 cc74 : Addr} {ct74 : Value} {osl74 : Array (Option Value)} {ccl74 : Value} {cdd74 : Option Addr} {vs74 : Array Value} {ccs74 : Array (Option Value)} {tf74 : Tok} {cl74 : Value} {cld74 : Option Addr} {csl74 : Array (Option Value)}
    {C97 : Addr}
    {f99 : Addr} {nm100 qn100 : Str} {N100 : Addr} {bs100 bm100 : List Value} {sn100 : List Str} {sub100 : List Value} {ab100 : Bool} {col100 : Option Bool} {dd100 : Option Addr} {k0100 k1100 k2100 k3100 k5100 : Option Value}
    {oc100 : Value} {od100 : Option Addr} {doc100 pm100 : Value} {an100 : Option Addr} {cda100 cc100 : Addr} {ct100 : Value} {osl100 : Array (Option Value)} {ccl100 : Value} {cdd100 : Option Addr} {vs100 : Array Value} {ccs100 : Array (Option Value)} {tf100 : Tok} {cl100 : Value} {cld100 : Option Addr} {csl100 : Array (Option Value)}
    {C123 : Addr}
    {f125 : Addr} {nm126 qn126 : Str} {N126 : Addr} {bs126 bm126 : List Value} {sn126 : List Str} {sub126 : List Value} {ab126 : Bool} {col126 : Option Bool} {dd126 : Option Addr} {k0126 k1126 k2126 k3126 k5126 : Option Value}
    {oc126 : Value} {od126 : Option Addr} {doc126 pm126 : Value} {an126 : Option Addr} {cda126 cc126 : Addr} {ct126 : Value} {osl126 : Array (Option Value)} {ccl126 : Value} {cdd126 : Option Addr} {vs126 : Array Value} {ccs126 : Array (Option Value)} {tf126 : Tok} {cl126 : Value} {cld126 : Option Addr} {csl126 : Array (Option Value)}
    {C148 : Addr}
    {f150 : Addr} {nm151 qn151 : Str} {N151 : Addr} {bs151 bm151 : List Value} {sn151 : List Str} {sub151 : List Value} {ab151 : Bool} {col151 : Option Bool} {dd151 : Option Addr} {k0151 k1151 k2151 k3151 k5151 : Option Value}
    {oc151 : Value} {od151 : Option Addr} {doc151 pm151 : Value} {an151 : Option Addr} {cda151 cc151 : Addr} {ct151 : Value} {osl151 : Array (Option Value)} {ccl151 : Value} {cdd151 : Option Addr} {vs151 : Array Value} {ccs151 : Array (Option Value)} {tf151 : Tok} {cl151 : Value} {cld151 : Option Addr} {csl151 : Array (Option Value)}
    {C172 : Addr}
    {f174 : Addr} {nm175 qn175 : Str} {N175 : Addr} {bs175 bm175 : List Value} {sn175 : List Str} {sub175 : List Value} {ab175 : Bool} {col175 : Option Bool} {dd175 : Option Addr} {k0175 k1175 k2175 k3175 k5175 : Option Value}
    {oc175 : Value} {od175 : Option Addr} {doc175 pm175 : Value} {an175 : Option Addr} {cda175 cc175 : Addr} {ct175 : Value} {osl175 : Array (Option Value)} {ccl175 : Value} {cdd175 : Option Addr} {vs175 : Array Value} {ccs175 : Array (Option Value)} {tf175 : Tok} {cl175 : Value} {cld175 : Option Addr} {csl175 : Array (Option Value)}
    {C198 : Addr}
    {f200 : Addr} {nm201 qn201 : Str} {N201 : Addr} {bs201 bm201 : List Value} {sn201 : List Str} {sub201 : List Value} {ab201 : Bool} {col201 : Option Bool} {dd201 : Option Addr} {k0201 k1201 k2201 k3201 k5201 : Option Value}
    {oc201 : Value} {od201 : Option Addr} {doc201 pm201 : Value} {an201 : Option Addr} {cda201 cc201 : Addr} {ct201 : Value} {osl201 : Array (Option Value)} {ccl201 : Value} {cdd201 : Option Addr} {vs201 : Array Value} {ccs201 : Array (Option Value)} {tf201 : Tok} {cl201 : Value} {cld201 : Option Addr} {csl201 : Array (Option Value)}
    {C223 : Addr}
    {f225 : Addr} {nm226 qn226 : Str} {N226 : Addr} {bs226 bm226 : List Value} {sn226 : List Str} {sub226 : List Value} {ab226 : Bool} {col226 : Option Bool} {dd226 : Option Addr} {k0226 k1226 k2226 k3226 k5226 : Option Value}
    {oc226 : Value} {od226 : Option Addr} {doc226 pm226 : Value} {an226 : Option Addr} {cda226 cc226 : Addr} {ct226 : Value} {osl226 : Array (Option Value)} {ccl226 : Value} {cdd226 : Option Addr} {vs226 : Array Value} {ccs226 : Array (Option Value)} {tf226 : Tok} {cl226 : Value} {cld226 : Option Addr} {csl226 : Array (Option Value)}
    {C248 : Addr}
    {f250 : Addr} {nm251 qn251 : Str} {N251 : Addr} {bs251 bm251 : List Value} {sn251 : List Str} {sub251 : List Value} {ab251 : Bool} {col251 : Option Bool} {dd251 : Option Addr} {k0251 k1251 k2251 k3251 k5251 : Option Value}
    {oc251 : Value} {od251 : Option Addr} {doc251 pm251 : Value} {an251 : Option Addr} {cda251 cc251 : Addr} {ct251 : Value} {osl251 : Array (Option Value)} {ccl251 : Value} {cdd251 : Option Addr} {vs251 : Array Value} {ccs251 : Array (Option Value)} {tf251 : Tok} {cl251 : Value} {cld251 : Option Addr} {csl251 : Array (Option Value)}
    {C273 : Addr}
    {f284 : Addr}
    {od289 an289 : Option Addr} {sl289 : Array (Option Value)} {oc289 kV289 dc289 pm289 cd289 ct289 : Value}
    {C290 : Addr}
    {f298 : Addr}
    {od303 an303 : Option Addr} {sl303 : Array (Option Value)} {oc303 kV303 dc303 pm303 cd303 ct303 : Value}
    {C304 : Addr}
    {f315 : Addr}
    {od320 an320 : Option Addr} {sl320 : Array (Option Value)} {oc320 kV320 dc320 pm320 cd320 ct320 : Value}
    {f321 : Addr}
    {od324 an324 : Option Addr} {sl324 : Array (Option Value)} {oc324 kV324 dc324 pm324 cd324 ct324 : Value}
    {f325 : Addr}
    {od328 an328 : Option Addr} {sl328 : Array (Option Value)} {oc328 kV328 dc328 pm328 cd328 ct328 : Value}
    {f329 : Addr}
    {od332 an332 : Option Addr} {sl332 : Array (Option Value)} {oc332 kV332 dc332 pm332 cd332 ct332 : Value}
    {f333 : Addr}
    {od336 an336 : Option Addr} {sl336 : Array (Option Value)} {oc336 kV336 dc336 pm336 cd336 ct336 : Value}
    {f337 : Addr}
    {od340 an340 : Option Addr} {sl340 : Array (Option Value)} {oc340 dc340 pm340 cd340 ct340 : Value}
    {T341 : Addr} {oc342 : Value} {od343 : Option Addr} {on344 : Nat} {os345 : Array (Option Value)}
    {t346 : Tok}
    {kV340 : Value}
    {f348 : Addr}
    {od351 an351 : Option Addr} {sl351 : Array (Option Value)} {oc351 kV351 dc351 pm351 cd351 ct351 : Value}
    {f352 : Addr}
    {od355 an355 : Option Addr} {sl355 : Array (Option Value)} {oc355 kV355 dc355 pm355 cd355 ct355 : Value}
    {f356 : Addr}
    {od359 an359 : Option Addr} {sl359 : Array (Option Value)} {oc359 dc359 pm359 cd359 ct359 : Value}
    {T360 : Addr} {oc361 : Value} {od362 : Option Addr} {on363 : Nat} {os364 : Array (Option Value)}
    {D367 : Addr}
    {f370 : Addr}
    {od373 an373 : Option Addr} {sl373 : Array (Option Value)} {oc373 kV373 dc373 pm373 cd373 ct373 : Value}
    {f374 : Addr}
    {od377 an377 : Option Addr} {sl377 : Array (Option Value)} {oc377 kV377 dc377 pm377 cd377 ct377 : Value}
    {f378 : Addr}
    {od381 an381 : Option Addr} {sl381 : Array (Option Value)} {oc381 kV381 dc381 pm381 cd381 ct381 : Value}
    {f382 : Addr}
    {od385 an385 : Option Addr} {sl385 : Array (Option Value)} {oc385 kV385 dc385 pm385 cd385 ct385 : Value}
    {f386 : Addr}
    {od389 an389 : Option Addr} {sl389 : Array (Option Value)} {oc389 kV389 dc389 pm389 cd389 ct389 : Value}
    {f390 : Addr}
    {od393 an393 : Option Addr} {sl393 : Array (Option Value)} {oc393 kV393 dc393 pm393 cd393 ct393 : Value}
    {f394 : Addr}
    {od397 an397 : Option Addr} {sl397 : Array (Option Value)} {oc397 kV397 dc397 pm397 cd397 ct397 : Value}
    {f398 : Addr}
    {od401 an401 : Option Addr} {sl401 : Array (Option Value)} {oc401 kV401 dc401 pm401 cd401 ct401 : Value}
    {f403 : Addr}
    {od405 an405 : Option Addr} {sl405 : Array (Option Value)} {oc405 kV405 dc405 pm405 cd405 ct405 : Value}
    {f406 : Addr}
    {od408 an408 : Option Addr} {sl408 : Array (Option Value)} {oc408 kV408 dc408 pm408 cd408 ct408 : Value}
    {f409 : Addr}
    {od411 an411 : Option Addr} {sl411 : Array (Option Value)} {oc411 kV411 dc411 pm411 cd411 ct411 : Value}
    {f412 : Addr}
    {od414 an414 : Option Addr} {sl414 : Array (Option Value)} {oc414 kV414 dc414 pm414 cd414 ct414 : Value}
    {f415 : Addr}
    {od417 an417 : Option Addr} {sl417 : Array (Option Value)} {oc417 kV417 dc417 pm417 cd417 ct417 : Value}
    {f418 : Addr}
    {od420 an420 : Option Addr} {sl420 : Array (Option Value)} {oc420 kV420 dc420 pm420 cd420 ct420 : Value}
    {od421 an421 : Option Addr} {sl421 : Array (Option Value)} {oc421 kV421 dc421 pm421 cd421 ct421 : Value}
    (a0 : PySem.W.nsIn K mainGlobals "law" = some (some (.ref f0)))
    (a2 : PySem.W.nsIn K mainGlobals "Mode" = some (some (.ref C1)))
    (r3 : PySem.W.readsIn K C1 (.type "type") = true)
    (s4 : PySem.W.specialIn K (.ref C1) "__getattribute__" = some (some (.builtin "type.__getattribute__")))
    (z5 : PySem.W.findCls K (.ref C1) (.type "type") "JOIN" = some (.val (.str "join" t6)))
    (z7 : PySem.W.findCls K (.ref C1) (.type "type") "INNER" = some (.val (.str "inner" t8)))
    (z9 : PySem.W.findCls K (.ref C1) (.type "type") "APART" = some (.val (.str "apart" t10)))
    (z11 : PySem.W.findCls K (.ref C1) (.type "type") "MUST" = some (.val (.str "must" t12)))
    (z13 : PySem.W.findCls K (.ref C1) (.type "type") "EITHER" = some (.val (.str "either" t14)))
    (z15 : PySem.W.findCls K (.ref C1) (.type "type") "NEVER" = some (.val (.str "never" t16)))
    (z17 : PySem.W.findCls K (.ref C1) (.type "type") "OUTSIDE" = some (.val (.str "outside" t18)))
    (z19 : PySem.W.findCls K (.ref C1) (.type "type") "ALONE" = some (.val (.str "alone" t20)))
    (z21 : PySem.W.findCls K (.ref C1) (.type "type") "ALL" = some (.val (.ref p22)))
    (l23 : K.lookup p22 = some ⟨.type "tuple", dd32, .seq #[.str "join" t24, .str "inner" t25, .str "apart" t26, .str "must" t27, .str "either" t28, .str "never" t29, .str "outside" t30, .str "alone" t31] nn33, sl34⟩)
    (z37 : PySem.W.findCls K (.ref C1) (.type "type") "is_mode" = some (.get (.builtin "staticmethod.__get__") (.ref p36) .none (.ref C1)))
    (r38 : PySem.W.recIn K p36 "staticmethod" = some (.ref f35 :: rs39))
    (l40 : K.lookup f35 = some ⟨oc40, od40, .func (PySem.W.fnOf "is_mode" "Mode.is_mode" (defArgs s_Mode_is_mode) (defBody s_Mode_is_mode) (defScope s_Mode_is_mode) .none kV40 dc40 pm40 an40 cd40 ct40), sl40⟩)
    (c40 : PySem.W.codeIn K cd40 "Mode.is_mode" = true)
    (k40 : PySem.W.keepIn K (.ref f35) = true)
    (a42 : PySem.W.nsIn K mainGlobals "is_word" = some (some (.ref f41)))
    (l43 : K.lookup f41 = some ⟨oc43, od43, .func (PySem.W.fnOf "is_word" "is_word" (defArgs s_is_word) (defBody s_is_word) (defScope s_is_word) .none kV43 dc43 pm43 an43 cd43 ct43), sl43⟩)
    (c43 : PySem.W.codeIn K cd43 "is_word" = true)
    (k43 : PySem.W.keepIn K (.ref f41) = true)
    (z44 : PySem.W.nsIn K cStatics "thirdparty.any" = some none)
    (a46 : PySem.W.nsIn K mainGlobals "Missing" = some (some (.ref C45)))
    (e49 : K.lookup C45 = some (excClassObj nm48 qn48 C45 N48 bs48 bm48 true sn48 sub48 ab48 col48 dd48 k048 k148 k248 k348 k548 "ValueError.__new__"))
    (e50 : PySem.HandSPX.refsVE bm48 = true)
    (e51 : PySem.W.findIn K (.ref C45) "__setattr__" = some (some (.builtin "object.__setattr__")))
    (e52 : PySem.W.findIn K (.ref C45) "__getattribute__" = some (some (.builtin "BaseException.__getattribute__")))
    (e53 : PySem.W.findIn K (.ref C45) "__getattr__" = some none)
    (e54 : PySem.W.findIn K (.ref C45) "__init__" = some (some (.ref f47)))
    (e55 : PySem.W.typeIn K (.ref f47) = some (.type "function"))
    (e56 : PySem.W.keepIn K (.ref C45) = true)
    (e57 : PySem.W.subIn K (.ref C45) (.type "BaseException") = some true)
    (e58 : PySem.W.subIn K (.ref C45) (.type "ValueError") = some true)
    (e59 : PySem.W.typeIn K (.ref C45) = some (.type "type"))
    (e60 : PySem.W.hasDictIn K C45 = true)
    (e61 : PySem.W.ks_superIn K C45 C45 "__init__" = some (some (.builtin "ValueError.__init__")))
    (e62 : PySem.W.mroIn K C45 (.ref C45) = some true)
    (e63 : PySem.W.exmOne K (.ref C45) (.ref C45) = some true)
    (e64 : K.lookup f47 = some ⟨oc48, od48, .func (PySem.W.ksFn "__init__" "Missing.__init__" (defArgs s_MissingU_initU) (defBody s_MissingU_initU) (defScope s_MissingU_initU) .none .none doc48 pm48 an48 (.ref cda48) ct48 cc48), osl48⟩)
    (e65 : PySem.W.codeIn K (.ref cda48) "Missing.__init__" = true)
    (e66 : K.lookup cda48 = some ⟨ccl48, cdd48, .fields vs48, ccs48⟩)
    (e67 : vs48[2]? = some (.str P.main.file tf48))
    (e68 : K.lookup cc48 = some ⟨cl48, cld48, .cell (some (.ref C45)), csl48⟩)
    (e69 : PySem.W.findIn K (.ref C45) "word" = some none)
    (e70 : PySem.W.findIn K (.ref C45) "mode" = some none)
    (a72 : PySem.W.nsIn K mainGlobals "Present" = some (some (.ref C71)))
    (e75 : K.lookup C71 = some (excClassObj nm74 qn74 C71 N74 bs74 bm74 true sn74 sub74 ab74 col74 dd74 k074 k174 k274 k374 k574 "ValueError.__new__"))
    (e76 : PySem.HandSPX.refsVE bm74 = true)
    (e77 : PySem.W.findIn K (.ref C71) "__setattr__" = some (some (.builtin "object.__setattr__")))
    (e78 : PySem.W.findIn K (.ref C71) "__getattribute__" = some (some (.builtin "BaseException.__getattribute__")))
    (e79 : PySem.W.findIn K (.ref C71) "__getattr__" = some none)
    (e80 : PySem.W.findIn K (.ref C71) "__init__" = some (some (.ref f73)))
    (e81 : PySem.W.typeIn K (.ref f73) = some (.type "function"))
    (e82 : PySem.W.keepIn K (.ref C71) = true)
    (e83 : PySem.W.subIn K (.ref C71) (.type "BaseException") = some true)
    (e84 : PySem.W.subIn K (.ref C71) (.type "ValueError") = some true)
    (e85 : PySem.W.typeIn K (.ref C71) = some (.type "type"))
    (e86 : PySem.W.hasDictIn K C71 = true)
    (e87 : PySem.W.ks_superIn K C71 C71 "__init__" = some (some (.builtin "ValueError.__init__")))
    (e88 : PySem.W.mroIn K C71 (.ref C71) = some true)
    (e89 : PySem.W.exmOne K (.ref C71) (.ref C71) = some true)
    (e90 : K.lookup f73 = some ⟨oc74, od74, .func (PySem.W.ksFn "__init__" "Present.__init__" (defArgs s_PresentU_initU) (defBody s_PresentU_initU) (defScope s_PresentU_initU) .none .none doc74 pm74 an74 (.ref cda74) ct74 cc74), osl74⟩)
    (e91 : PySem.W.codeIn K (.ref cda74) "Present.__init__" = true)
    (e92 : K.lookup cda74 = some ⟨ccl74, cdd74, .fields vs74, ccs74⟩)
    (e93 : vs74[2]? = some (.str P.main.file tf74))
    (e94 : K.lookup cc74 = some ⟨cl74, cld74, .cell (some (.ref C71)), csl74⟩)
    (e95 : PySem.W.findIn K (.ref C71) "word" = some none)
    (e96 : PySem.W.findIn K (.ref C71) "mode" = some none)
    (a98 : PySem.W.nsIn K mainGlobals "Doomed" = some (some (.ref C97)))
    (e101 : K.lookup C97 = some (excClassObj nm100 qn100 C97 N100 bs100 bm100 true sn100 sub100 ab100 col100 dd100 k0100 k1100 k2100 k3100 k5100 "ValueError.__new__"))
    (e102 : PySem.HandSPX.refsVE bm100 = true)
    (e103 : PySem.W.findIn K (.ref C97) "__setattr__" = some (some (.builtin "object.__setattr__")))
    (e104 : PySem.W.findIn K (.ref C97) "__getattribute__" = some (some (.builtin "BaseException.__getattribute__")))
    (e105 : PySem.W.findIn K (.ref C97) "__getattr__" = some none)
    (e106 : PySem.W.findIn K (.ref C97) "__init__" = some (some (.ref f99)))
    (e107 : PySem.W.typeIn K (.ref f99) = some (.type "function"))
    (e108 : PySem.W.keepIn K (.ref C97) = true)
    (e109 : PySem.W.subIn K (.ref C97) (.type "BaseException") = some true)
    (e110 : PySem.W.subIn K (.ref C97) (.type "ValueError") = some true)
    (e111 : PySem.W.typeIn K (.ref C97) = some (.type "type"))
    (e112 : PySem.W.hasDictIn K C97 = true)
    (e113 : PySem.W.ks_superIn K C97 C97 "__init__" = some (some (.builtin "ValueError.__init__")))
    (e114 : PySem.W.mroIn K C97 (.ref C97) = some true)
    (e115 : PySem.W.exmOne K (.ref C97) (.ref C97) = some true)
    (e116 : K.lookup f99 = some ⟨oc100, od100, .func (PySem.W.ksFn "__init__" "Doomed.__init__" (defArgs s_DoomedU_initU) (defBody s_DoomedU_initU) (defScope s_DoomedU_initU) .none .none doc100 pm100 an100 (.ref cda100) ct100 cc100), osl100⟩)
    (e117 : PySem.W.codeIn K (.ref cda100) "Doomed.__init__" = true)
    (e118 : K.lookup cda100 = some ⟨ccl100, cdd100, .fields vs100, ccs100⟩)
    (e119 : vs100[2]? = some (.str P.main.file tf100))
    (e120 : K.lookup cc100 = some ⟨cl100, cld100, .cell (some (.ref C97)), csl100⟩)
    (e121 : PySem.W.findIn K (.ref C97) "word" = some none)
    (e122 : PySem.W.findIn K (.ref C97) "first" = some none)
    (a124 : PySem.W.nsIn K mainGlobals "Refused" = some (some (.ref C123)))
    (e127 : K.lookup C123 = some (excClassObj nm126 qn126 C123 N126 bs126 bm126 true sn126 sub126 ab126 col126 dd126 k0126 k1126 k2126 k3126 k5126 "ValueError.__new__"))
    (e128 : PySem.HandSPX.refsVE bm126 = true)
    (e129 : PySem.W.findIn K (.ref C123) "__setattr__" = some (some (.builtin "object.__setattr__")))
    (e130 : PySem.W.findIn K (.ref C123) "__getattribute__" = some (some (.builtin "BaseException.__getattribute__")))
    (e131 : PySem.W.findIn K (.ref C123) "__getattr__" = some none)
    (e132 : PySem.W.findIn K (.ref C123) "__init__" = some (some (.ref f125)))
    (e133 : PySem.W.typeIn K (.ref f125) = some (.type "function"))
    (e134 : PySem.W.keepIn K (.ref C123) = true)
    (e135 : PySem.W.subIn K (.ref C123) (.type "BaseException") = some true)
    (e136 : PySem.W.subIn K (.ref C123) (.type "ValueError") = some true)
    (e137 : PySem.W.typeIn K (.ref C123) = some (.type "type"))
    (e138 : PySem.W.hasDictIn K C123 = true)
    (e139 : PySem.W.ks_superIn K C123 C123 "__init__" = some (some (.builtin "ValueError.__init__")))
    (e140 : PySem.W.mroIn K C123 (.ref C123) = some true)
    (e141 : PySem.W.exmOne K (.ref C123) (.ref C123) = some true)
    (e142 : K.lookup f125 = some ⟨oc126, od126, .func (PySem.W.ksFn "__init__" "Refused.__init__" (defArgs s_RefusedU_initU) (defBody s_RefusedU_initU) (defScope s_RefusedU_initU) .none .none doc126 pm126 an126 (.ref cda126) ct126 cc126), osl126⟩)
    (e143 : PySem.W.codeIn K (.ref cda126) "Refused.__init__" = true)
    (e144 : K.lookup cda126 = some ⟨ccl126, cdd126, .fields vs126, ccs126⟩)
    (e145 : vs126[2]? = some (.str P.main.file tf126))
    (e146 : K.lookup cc126 = some ⟨cl126, cld126, .cell (some (.ref C123)), csl126⟩)
    (e147 : PySem.W.findIn K (.ref C123) "word" = some none)
    (a149 : PySem.W.nsIn K mainGlobals "NoBlock" = some (some (.ref C148)))
    (e152 : K.lookup C148 = some (excClassObj nm151 qn151 C148 N151 bs151 bm151 true sn151 sub151 ab151 col151 dd151 k0151 k1151 k2151 k3151 k5151 "ValueError.__new__"))
    (e153 : PySem.HandSPX.refsVE bm151 = true)
    (e154 : PySem.W.findIn K (.ref C148) "__setattr__" = some (some (.builtin "object.__setattr__")))
    (e155 : PySem.W.findIn K (.ref C148) "__getattribute__" = some (some (.builtin "BaseException.__getattribute__")))
    (e156 : PySem.W.findIn K (.ref C148) "__getattr__" = some none)
    (e157 : PySem.W.findIn K (.ref C148) "__init__" = some (some (.ref f150)))
    (e158 : PySem.W.typeIn K (.ref f150) = some (.type "function"))
    (e159 : PySem.W.keepIn K (.ref C148) = true)
    (e160 : PySem.W.subIn K (.ref C148) (.type "BaseException") = some true)
    (e161 : PySem.W.subIn K (.ref C148) (.type "ValueError") = some true)
    (e162 : PySem.W.typeIn K (.ref C148) = some (.type "type"))
    (e163 : PySem.W.hasDictIn K C148 = true)
    (e164 : PySem.W.ks_superIn K C148 C148 "__init__" = some (some (.builtin "ValueError.__init__")))
    (e165 : PySem.W.mroIn K C148 (.ref C148) = some true)
    (e166 : PySem.W.exmOne K (.ref C148) (.ref C148) = some true)
    (e167 : K.lookup f150 = some ⟨oc151, od151, .func (PySem.W.ksFn "__init__" "NoBlock.__init__" (defArgs s_NoBlockU_initU) (defBody s_NoBlockU_initU) (defScope s_NoBlockU_initU) .none .none doc151 pm151 an151 (.ref cda151) ct151 cc151), osl151⟩)
    (e168 : PySem.W.codeIn K (.ref cda151) "NoBlock.__init__" = true)
    (e169 : K.lookup cda151 = some ⟨ccl151, cdd151, .fields vs151, ccs151⟩)
    (e170 : vs151[2]? = some (.str P.main.file tf151))
    (e171 : K.lookup cc151 = some ⟨cl151, cld151, .cell (some (.ref C148)), csl151⟩)
    (a173 : PySem.W.nsIn K mainGlobals "Waits" = some (some (.ref C172)))
    (e176 : K.lookup C172 = some (excClassObj nm175 qn175 C172 N175 bs175 bm175 true sn175 sub175 ab175 col175 dd175 k0175 k1175 k2175 k3175 k5175 "ValueError.__new__"))
    (e177 : PySem.HandSPX.refsVE bm175 = true)
    (e178 : PySem.W.findIn K (.ref C172) "__setattr__" = some (some (.builtin "object.__setattr__")))
    (e179 : PySem.W.findIn K (.ref C172) "__getattribute__" = some (some (.builtin "BaseException.__getattribute__")))
    (e180 : PySem.W.findIn K (.ref C172) "__getattr__" = some none)
    (e181 : PySem.W.findIn K (.ref C172) "__init__" = some (some (.ref f174)))
    (e182 : PySem.W.typeIn K (.ref f174) = some (.type "function"))
    (e183 : PySem.W.keepIn K (.ref C172) = true)
    (e184 : PySem.W.subIn K (.ref C172) (.type "BaseException") = some true)
    (e185 : PySem.W.subIn K (.ref C172) (.type "ValueError") = some true)
    (e186 : PySem.W.typeIn K (.ref C172) = some (.type "type"))
    (e187 : PySem.W.hasDictIn K C172 = true)
    (e188 : PySem.W.ks_superIn K C172 C172 "__init__" = some (some (.builtin "ValueError.__init__")))
    (e189 : PySem.W.mroIn K C172 (.ref C172) = some true)
    (e190 : PySem.W.exmOne K (.ref C172) (.ref C172) = some true)
    (e191 : K.lookup f174 = some ⟨oc175, od175, .func (PySem.W.ksFn "__init__" "Waits.__init__" (defArgs s_WaitsU_initU) (defBody s_WaitsU_initU) (defScope s_WaitsU_initU) .none .none doc175 pm175 an175 (.ref cda175) ct175 cc175), osl175⟩)
    (e192 : PySem.W.codeIn K (.ref cda175) "Waits.__init__" = true)
    (e193 : K.lookup cda175 = some ⟨ccl175, cdd175, .fields vs175, ccs175⟩)
    (e194 : vs175[2]? = some (.str P.main.file tf175))
    (e195 : K.lookup cc175 = some ⟨cl175, cld175, .cell (some (.ref C172)), csl175⟩)
    (e196 : PySem.W.findIn K (.ref C172) "word" = some none)
    (e197 : PySem.W.findIn K (.ref C172) "record" = some none)
    (a199 : PySem.W.nsIn K mainGlobals "NoRecord" = some (some (.ref C198)))
    (e202 : K.lookup C198 = some (excClassObj nm201 qn201 C198 N201 bs201 bm201 true sn201 sub201 ab201 col201 dd201 k0201 k1201 k2201 k3201 k5201 "ValueError.__new__"))
    (e203 : PySem.HandSPX.refsVE bm201 = true)
    (e204 : PySem.W.findIn K (.ref C198) "__setattr__" = some (some (.builtin "object.__setattr__")))
    (e205 : PySem.W.findIn K (.ref C198) "__getattribute__" = some (some (.builtin "BaseException.__getattribute__")))
    (e206 : PySem.W.findIn K (.ref C198) "__getattr__" = some none)
    (e207 : PySem.W.findIn K (.ref C198) "__init__" = some (some (.ref f200)))
    (e208 : PySem.W.typeIn K (.ref f200) = some (.type "function"))
    (e209 : PySem.W.keepIn K (.ref C198) = true)
    (e210 : PySem.W.subIn K (.ref C198) (.type "BaseException") = some true)
    (e211 : PySem.W.subIn K (.ref C198) (.type "ValueError") = some true)
    (e212 : PySem.W.typeIn K (.ref C198) = some (.type "type"))
    (e213 : PySem.W.hasDictIn K C198 = true)
    (e214 : PySem.W.ks_superIn K C198 C198 "__init__" = some (some (.builtin "ValueError.__init__")))
    (e215 : PySem.W.mroIn K C198 (.ref C198) = some true)
    (e216 : PySem.W.exmOne K (.ref C198) (.ref C198) = some true)
    (e217 : K.lookup f200 = some ⟨oc201, od201, .func (PySem.W.ksFn "__init__" "NoRecord.__init__" (defArgs s_NoRecordU_initU) (defBody s_NoRecordU_initU) (defScope s_NoRecordU_initU) .none .none doc201 pm201 an201 (.ref cda201) ct201 cc201), osl201⟩)
    (e218 : PySem.W.codeIn K (.ref cda201) "NoRecord.__init__" = true)
    (e219 : K.lookup cda201 = some ⟨ccl201, cdd201, .fields vs201, ccs201⟩)
    (e220 : vs201[2]? = some (.str P.main.file tf201))
    (e221 : K.lookup cc201 = some ⟨cl201, cld201, .cell (some (.ref C198)), csl201⟩)
    (e222 : PySem.W.findIn K (.ref C198) "record" = some none)
    (a224 : PySem.W.nsIn K mainGlobals "BadWord" = some (some (.ref C223)))
    (e227 : K.lookup C223 = some (excClassObj nm226 qn226 C223 N226 bs226 bm226 true sn226 sub226 ab226 col226 dd226 k0226 k1226 k2226 k3226 k5226 "ValueError.__new__"))
    (e228 : PySem.HandSPX.refsVE bm226 = true)
    (e229 : PySem.W.findIn K (.ref C223) "__setattr__" = some (some (.builtin "object.__setattr__")))
    (e230 : PySem.W.findIn K (.ref C223) "__getattribute__" = some (some (.builtin "BaseException.__getattribute__")))
    (e231 : PySem.W.findIn K (.ref C223) "__getattr__" = some none)
    (e232 : PySem.W.findIn K (.ref C223) "__init__" = some (some (.ref f225)))
    (e233 : PySem.W.typeIn K (.ref f225) = some (.type "function"))
    (e234 : PySem.W.keepIn K (.ref C223) = true)
    (e235 : PySem.W.subIn K (.ref C223) (.type "BaseException") = some true)
    (e236 : PySem.W.subIn K (.ref C223) (.type "ValueError") = some true)
    (e237 : PySem.W.typeIn K (.ref C223) = some (.type "type"))
    (e238 : PySem.W.hasDictIn K C223 = true)
    (e239 : PySem.W.ks_superIn K C223 C223 "__init__" = some (some (.builtin "ValueError.__init__")))
    (e240 : PySem.W.mroIn K C223 (.ref C223) = some true)
    (e241 : PySem.W.exmOne K (.ref C223) (.ref C223) = some true)
    (e242 : K.lookup f225 = some ⟨oc226, od226, .func (PySem.W.ksFn "__init__" "BadWord.__init__" (defArgs s_BadWordU_initU) (defBody s_BadWordU_initU) (defScope s_BadWordU_initU) .none .none doc226 pm226 an226 (.ref cda226) ct226 cc226), osl226⟩)
    (e243 : PySem.W.codeIn K (.ref cda226) "BadWord.__init__" = true)
    (e244 : K.lookup cda226 = some ⟨ccl226, cdd226, .fields vs226, ccs226⟩)
    (e245 : vs226[2]? = some (.str P.main.file tf226))
    (e246 : K.lookup cc226 = some ⟨cl226, cld226, .cell (some (.ref C223)), csl226⟩)
    (e247 : PySem.W.findIn K (.ref C223) "word" = some none)
    (a249 : PySem.W.nsIn K mainGlobals "BadMode" = some (some (.ref C248)))
    (e252 : K.lookup C248 = some (excClassObj nm251 qn251 C248 N251 bs251 bm251 true sn251 sub251 ab251 col251 dd251 k0251 k1251 k2251 k3251 k5251 "ValueError.__new__"))
    (e253 : PySem.HandSPX.refsVE bm251 = true)
    (e254 : PySem.W.findIn K (.ref C248) "__setattr__" = some (some (.builtin "object.__setattr__")))
    (e255 : PySem.W.findIn K (.ref C248) "__getattribute__" = some (some (.builtin "BaseException.__getattribute__")))
    (e256 : PySem.W.findIn K (.ref C248) "__getattr__" = some none)
    (e257 : PySem.W.findIn K (.ref C248) "__init__" = some (some (.ref f250)))
    (e258 : PySem.W.typeIn K (.ref f250) = some (.type "function"))
    (e259 : PySem.W.keepIn K (.ref C248) = true)
    (e260 : PySem.W.subIn K (.ref C248) (.type "BaseException") = some true)
    (e261 : PySem.W.subIn K (.ref C248) (.type "ValueError") = some true)
    (e262 : PySem.W.typeIn K (.ref C248) = some (.type "type"))
    (e263 : PySem.W.hasDictIn K C248 = true)
    (e264 : PySem.W.ks_superIn K C248 C248 "__init__" = some (some (.builtin "ValueError.__init__")))
    (e265 : PySem.W.mroIn K C248 (.ref C248) = some true)
    (e266 : PySem.W.exmOne K (.ref C248) (.ref C248) = some true)
    (e267 : K.lookup f250 = some ⟨oc251, od251, .func (PySem.W.ksFn "__init__" "BadMode.__init__" (defArgs s_BadModeU_initU) (defBody s_BadModeU_initU) (defScope s_BadModeU_initU) .none .none doc251 pm251 an251 (.ref cda251) ct251 cc251), osl251⟩)
    (e268 : PySem.W.codeIn K (.ref cda251) "BadMode.__init__" = true)
    (e269 : K.lookup cda251 = some ⟨ccl251, cdd251, .fields vs251, ccs251⟩)
    (e270 : vs251[2]? = some (.str P.main.file tf251))
    (e271 : K.lookup cc251 = some ⟨cl251, cld251, .cell (some (.ref C248)), csl251⟩)
    (e272 : PySem.W.findIn K (.ref C248) "mode" = some none)
    (a274 : PySem.W.nsIn K mainGlobals "Write" = some (some (.ref C273)))
    (q275 : PySem.W.plainGet K C273 Str.empty = true)
    (q276 : PySem.W.hasDictIn K C273 = true)
    (q277 : PySem.W.plainOver K C273 = true)
    (q278 : PySem.W.findIn K (.ref C273) "__setattr__" = some (some (.builtin "object.__setattr__")))
    (z279 : PySem.W.findIn K (.ref C273) "record" = some none)
    (z280 : PySem.W.findIn K (.ref C273) "value" = some none)
    (z281 : PySem.W.findIn K (.ref C273) "fate" = some none)
    (z282 : PySem.W.findIn K (.ref C273) "holder" = some none)
    (z283 : PySem.W.findIn K (.ref C273) "level" = some none)
    (q285 : PySem.W.makesIn K C273 = true)
    (q286 : PySem.W.findIn K (.ref C273) "__init__" = some (some (.ref f284)))
    (q287 : PySem.W.isFn K (.ref f284) = true)
    (q288 : PySem.W.keepIn K (.ref C273) = true)
    (l289 : K.lookup f284 = some ⟨oc289, od289, .func (PySem.W.fnOf "__init__" "Write.__init__" (defArgs s_WriteU_initU) (defBody s_WriteU_initU) (defScope s_WriteU_initU) .none kV289 dc289 pm289 an289 cd289 ct289), sl289⟩)
    (c289 : PySem.W.codeIn K cd289 "Write.__init__" = true)
    (k289 : PySem.W.keepIn K (.ref f284) = true)
    (a291 : PySem.W.nsIn K mainGlobals "Transaction" = some (some (.ref C290)))
    (q292 : PySem.W.plainGet K C290 Str.empty = true)
    (q293 : PySem.W.hasDictIn K C290 = true)
    (q294 : PySem.W.plainOver K C290 = true)
    (q295 : PySem.W.findIn K (.ref C290) "__setattr__" = some (some (.builtin "object.__setattr__")))
    (z296 : PySem.W.findIn K (.ref C290) "number" = some none)
    (z297 : PySem.W.findIn K (.ref C290) "reasons" = some none)
    (q299 : PySem.W.makesIn K C290 = true)
    (q300 : PySem.W.findIn K (.ref C290) "__init__" = some (some (.ref f298)))
    (q301 : PySem.W.isFn K (.ref f298) = true)
    (q302 : PySem.W.keepIn K (.ref C290) = true)
    (l303 : K.lookup f298 = some ⟨oc303, od303, .func (PySem.W.fnOf "__init__" "Transaction.__init__" (defArgs s_TransactionU_initU) (defBody s_TransactionU_initU) (defScope s_TransactionU_initU) .none kV303 dc303 pm303 an303 cd303 ct303), sl303⟩)
    (c303 : PySem.W.codeIn K cd303 "Transaction.__init__" = true)
    (k303 : PySem.W.keepIn K (.ref f298) = true)
    (a305 : PySem.W.nsIn K mainGlobals "Database" = some (some (.ref C304)))
    (q306 : PySem.W.plainGet K C304 Str.empty = true)
    (q307 : PySem.W.hasDictIn K C304 = true)
    (q308 : PySem.W.plainOver K C304 = true)
    (q309 : PySem.W.findIn K (.ref C304) "__setattr__" = some (some (.builtin "object.__setattr__")))
    (z310 : PySem.W.findIn K (.ref C304) "rows" = some none)
    (z311 : PySem.W.findIn K (.ref C304) "stack" = some none)
    (z312 : PySem.W.findIn K (.ref C304) "entered" = some none)
    (z313 : PySem.W.findIn K (.ref C304) "floor" = some none)
    (z314 : PySem.W.findIn K (.ref C304) "opened" = some none)
    (q316 : PySem.W.makesIn K C304 = true)
    (q317 : PySem.W.findIn K (.ref C304) "__init__" = some (some (.ref f315)))
    (q318 : PySem.W.isFn K (.ref f315) = true)
    (q319 : PySem.W.keepIn K (.ref C304) = true)
    (l320 : K.lookup f315 = some ⟨oc320, od320, .func (PySem.W.fnOf "__init__" "Database.__init__" (defArgs s_DatabaseU_initU) (defBody s_DatabaseU_initU) (defScope s_DatabaseU_initU) .none kV320 dc320 pm320 an320 cd320 ct320), sl320⟩)
    (c320 : PySem.W.codeIn K cd320 "Database.__init__" = true)
    (k320 : PySem.W.keepIn K (.ref f315) = true)
    (q322 : PySem.W.findIn K (.ref C304) "begin" = some (some (.ref f321)))
    (q323 : PySem.W.isFn K (.ref f321) = true)
    (l324 : K.lookup f321 = some ⟨oc324, od324, .func (PySem.W.fnOf "begin" "Database.begin" (defArgs s_Database_begin) (defBody s_Database_begin) (defScope s_Database_begin) .none kV324 dc324 pm324 an324 cd324 ct324), sl324⟩)
    (c324 : PySem.W.codeIn K cd324 "Database.begin" = true)
    (k324 : PySem.W.keepIn K (.ref f321) = true)
    (q326 : PySem.W.findIn K (.ref C304) "enter_alone" = some (some (.ref f325)))
    (q327 : PySem.W.isFn K (.ref f325) = true)
    (l328 : K.lookup f325 = some ⟨oc328, od328, .func (PySem.W.fnOf "enter_alone" "Database.enter_alone" (defArgs s_Database_enter_alone) (defBody s_Database_enter_alone) (defScope s_Database_enter_alone) .none kV328 dc328 pm328 an328 cd328 ct328), sl328⟩)
    (c328 : PySem.W.codeIn K cd328 "Database.enter_alone" = true)
    (k328 : PySem.W.keepIn K (.ref f325) = true)
    (q330 : PySem.W.findIn K (.ref C304) "enter_inside" = some (some (.ref f329)))
    (q331 : PySem.W.isFn K (.ref f329) = true)
    (l332 : K.lookup f329 = some ⟨oc332, od332, .func (PySem.W.fnOf "enter_inside" "Database.enter_inside" (defArgs s_Database_enter_inside) (defBody s_Database_enter_inside) (defScope s_Database_enter_inside) .none kV332 dc332 pm332 an332 cd332 ct332), sl332⟩)
    (c332 : PySem.W.codeIn K cd332 "Database.enter_inside" = true)
    (k332 : PySem.W.keepIn K (.ref f329) = true)
    (q334 : PySem.W.findIn K (.ref C304) "enter" = some (some (.ref f333)))
    (q335 : PySem.W.isFn K (.ref f333) = true)
    (l336 : K.lookup f333 = some ⟨oc336, od336, .func (PySem.W.fnOf "enter" "Database.enter" (defArgs s_Database_enter) (defBody s_Database_enter) (defScope s_Database_enter) .none kV336 dc336 pm336 an336 cd336 ct336), sl336⟩)
    (c336 : PySem.W.codeIn K cd336 "Database.enter" = true)
    (k336 : PySem.W.keepIn K (.ref f333) = true)
    (q338 : PySem.W.findIn K (.ref C304) "doom" = some (some (.ref f337)))
    (q339 : PySem.W.isFn K (.ref f337) = true)
    (l340 : K.lookup f337 = some ⟨oc340, od340, .func (PySem.W.fnOf "doom" "Database.doom" (defArgs s_Database_doom) (defBody s_Database_doom) (defScope s_Database_doom) (.ref T341) kV340 dc340 pm340 an340 cd340 ct340), sl340⟩)
    (c340 : PySem.W.codeIn K cd340 "Database.doom" = true)
    (k340 : PySem.W.keepIn K (.ref f337) = true)
    (lT347 : K.lookup T341 = some ⟨oc342, od343, .seq #[.str "doom" t346] on344, os345⟩)
    (q349 : PySem.W.findIn K (.ref C304) "end_level" = some (some (.ref f348)))
    (q350 : PySem.W.isFn K (.ref f348) = true)
    (l351 : K.lookup f348 = some ⟨oc351, od351, .func (PySem.W.fnOf "end_level" "Database.end_level" (defArgs s_Database_end_level) (defBody s_Database_end_level) (defScope s_Database_end_level) .none kV351 dc351 pm351 an351 cd351 ct351), sl351⟩)
    (c351 : PySem.W.codeIn K cd351 "Database.end_level" = true)
    (k351 : PySem.W.keepIn K (.ref f348) = true)
    (q353 : PySem.W.findIn K (.ref C304) "end_transaction" = some (some (.ref f352)))
    (q354 : PySem.W.isFn K (.ref f352) = true)
    (l355 : K.lookup f352 = some ⟨oc355, od355, .func (PySem.W.fnOf "end_transaction" "Database.end_transaction" (defArgs s_Database_end_transaction) (defBody s_Database_end_transaction) (defScope s_Database_end_transaction) .none kV355 dc355 pm355 an355 cd355 ct355), sl355⟩)
    (c355 : PySem.W.codeIn K cd355 "Database.end_transaction" = true)
    (k355 : PySem.W.keepIn K (.ref f352) = true)
    (q357 : PySem.W.findIn K (.ref C304) "leave" = some (some (.ref f356)))
    (q358 : PySem.W.isFn K (.ref f356) = true)
    (l359 : K.lookup f356 = some ⟨oc359, od359, .func (PySem.W.fnOf "leave" "Database.leave" (defArgs s_Database_leave) (defBody s_Database_leave) (defScope s_Database_leave) (.ref T360) (.ref D367) dc359 pm359 an359 cd359 ct359), sl359⟩)
    (c359 : PySem.W.codeIn K cd359 "Database.leave" = true)
    (k359 : PySem.W.keepIn K (.ref f356) = true)
    (lT366 : K.lookup T360 = some ⟨oc361, od362, .seq #[.none] on363, os364⟩)
    (z369 : PySem.W.nsIn K D367 "commits" = some (some (.bool true)))
    (q371 : PySem.W.findIn K (.ref C304) "held_by" = some (some (.ref f370)))
    (q372 : PySem.W.isFn K (.ref f370) = true)
    (l373 : K.lookup f370 = some ⟨oc373, od373, .func (PySem.W.fnOf "held_by" "Database.held_by" (defArgs s_Database_held_by) (defBody s_Database_held_by) (defScope s_Database_held_by) .none kV373 dc373 pm373 an373 cd373 ct373), sl373⟩)
    (c373 : PySem.W.codeIn K cd373 "Database.held_by" = true)
    (k373 : PySem.W.keepIn K (.ref f370) = true)
    (q375 : PySem.W.findIn K (.ref C304) "outer_records" = some (some (.ref f374)))
    (q376 : PySem.W.isFn K (.ref f374) = true)
    (l377 : K.lookup f374 = some ⟨oc377, od377, .func (PySem.W.fnOf "outer_records" "Database.outer_records" (defArgs s_Database_outer_records) (defBody s_Database_outer_records) (defScope s_Database_outer_records) .none kV377 dc377 pm377 an377 cd377 ct377), sl377⟩)
    (c377 : PySem.W.codeIn K cd377 "Database.outer_records" = true)
    (k377 : PySem.W.keepIn K (.ref f374) = true)
    (q379 : PySem.W.findIn K (.ref C304) "would_wait" = some (some (.ref f378)))
    (q380 : PySem.W.isFn K (.ref f378) = true)
    (l381 : K.lookup f378 = some ⟨oc381, od381, .func (PySem.W.fnOf "would_wait" "Database.would_wait" (defArgs s_Database_would_wait) (defBody s_Database_would_wait) (defScope s_Database_would_wait) .none kV381 dc381 pm381 an381 cd381 ct381), sl381⟩)
    (c381 : PySem.W.codeIn K cd381 "Database.would_wait" = true)
    (k381 : PySem.W.keepIn K (.ref f378) = true)
    (q383 : PySem.W.findIn K (.ref C304) "write" = some (some (.ref f382)))
    (q384 : PySem.W.isFn K (.ref f382) = true)
    (l385 : K.lookup f382 = some ⟨oc385, od385, .func (PySem.W.fnOf "write" "Database.write" (defArgs s_Database_write) (defBody s_Database_write) (defScope s_Database_write) .none kV385 dc385 pm385 an385 cd385 ct385), sl385⟩)
    (c385 : PySem.W.codeIn K cd385 "Database.write" = true)
    (k385 : PySem.W.keepIn K (.ref f382) = true)
    (q387 : PySem.W.findIn K (.ref C304) "__setitem__" = some (some (.ref f386)))
    (q388 : PySem.W.isFn K (.ref f386) = true)
    (l389 : K.lookup f386 = some ⟨oc389, od389, .func (PySem.W.fnOf "__setitem__" "Database.__setitem__" (defArgs s_DatabaseU_setitemU) (defBody s_DatabaseU_setitemU) (defScope s_DatabaseU_setitemU) .none kV389 dc389 pm389 an389 cd389 ct389), sl389⟩)
    (c389 : PySem.W.codeIn K cd389 "Database.__setitem__" = true)
    (k389 : PySem.W.keepIn K (.ref f386) = true)
    (q391 : PySem.W.findIn K (.ref C304) "sees" = some (some (.ref f390)))
    (q392 : PySem.W.isFn K (.ref f390) = true)
    (l393 : K.lookup f390 = some ⟨oc393, od393, .func (PySem.W.fnOf "sees" "Database.sees" (defArgs s_Database_sees) (defBody s_Database_sees) (defScope s_Database_sees) .none kV393 dc393 pm393 an393 cd393 ct393), sl393⟩)
    (c393 : PySem.W.codeIn K cd393 "Database.sees" = true)
    (k393 : PySem.W.keepIn K (.ref f390) = true)
    (q395 : PySem.W.findIn K (.ref C304) "__getitem__" = some (some (.ref f394)))
    (q396 : PySem.W.isFn K (.ref f394) = true)
    (l397 : K.lookup f394 = some ⟨oc397, od397, .func (PySem.W.fnOf "__getitem__" "Database.__getitem__" (defArgs s_DatabaseU_getitemU) (defBody s_DatabaseU_getitemU) (defScope s_DatabaseU_getitemU) .none kV397 dc397 pm397 an397 cd397 ct397), sl397⟩)
    (c397 : PySem.W.codeIn K cd397 "Database.__getitem__" = true)
    (k397 : PySem.W.keepIn K (.ref f394) = true)
    (q399 : PySem.W.findIn K (.ref C304) "__contains__" = some (some (.ref f398)))
    (q400 : PySem.W.isFn K (.ref f398) = true)
    (l401 : K.lookup f398 = some ⟨oc401, od401, .func (PySem.W.fnOf "__contains__" "Database.__contains__" (defArgs s_DatabaseU_containsU) (defBody s_DatabaseU_containsU) (defScope s_DatabaseU_containsU) .none kV401 dc401 pm401 an401 cd401 ct401), sl401⟩)
    (c401 : PySem.W.codeIn K cd401 "Database.__contains__" = true)
    (k401 : PySem.W.keepIn K (.ref f398) = true)
    (z402 : PySem.W.noSeq K C304 = true)
    (a404 : PySem.W.nsIn K mainGlobals "_law_pool" = some (some (.ref f403)))
    (l405 : K.lookup f403 = some ⟨oc405, od405, .func (PySem.W.fnOf "_law_pool" "_law_pool" (defArgs s_law_pool) (defBody s_law_pool) (defScope s_law_pool) .none kV405 dc405 pm405 an405 cd405 ct405), sl405⟩)
    (c405 : PySem.W.codeIn K cd405 "_law_pool" = true)
    (k405 : PySem.W.keepIn K (.ref f403) = true)
    (a407 : PySem.W.nsIn K mainGlobals "_law_draw" = some (some (.ref f406)))
    (l408 : K.lookup f406 = some ⟨oc408, od408, .func (PySem.W.fnOf "_law_draw" "_law_draw" (defArgs s_law_draw) (defBody s_law_draw) (defScope s_law_draw) .none kV408 dc408 pm408 an408 cd408 ct408), sl408⟩)
    (c408 : PySem.W.codeIn K cd408 "_law_draw" = true)
    (k408 : PySem.W.keepIn K (.ref f406) = true)
    (a410 : PySem.W.nsIn K mainGlobals "_law_word" = some (some (.ref f409)))
    (l411 : K.lookup f409 = some ⟨oc411, od411, .func (PySem.W.fnOf "_law_word" "_law_word" (defArgs s_law_word) (defBody s_law_word) (defScope s_law_word) .none kV411 dc411 pm411 an411 cd411 ct411), sl411⟩)
    (c411 : PySem.W.codeIn K cd411 "_law_word" = true)
    (k411 : PySem.W.keepIn K (.ref f409) = true)
    (a413 : PySem.W.nsIn K mainGlobals "_law_seen" = some (some (.ref f412)))
    (l414 : K.lookup f412 = some ⟨oc414, od414, .func (PySem.W.fnOf "_law_seen" "_law_seen" (defArgs s_law_seen) (defBody s_law_seen) (defScope s_law_seen) .none kV414 dc414 pm414 an414 cd414 ct414), sl414⟩)
    (c414 : PySem.W.codeIn K cd414 "_law_seen" = true)
    (k414 : PySem.W.keepIn K (.ref f412) = true)
    (a416 : PySem.W.nsIn K mainGlobals "_law_odd" = some (some (.ref f415)))
    (l417 : K.lookup f415 = some ⟨oc417, od417, .func (PySem.W.fnOf "_law_odd" "_law_odd" (defArgs s_law_odd) (defBody s_law_odd) (defScope s_law_odd) .none kV417 dc417 pm417 an417 cd417 ct417), sl417⟩)
    (c417 : PySem.W.codeIn K cd417 "_law_odd" = true)
    (k417 : PySem.W.keepIn K (.ref f415) = true)
    (a419 : PySem.W.nsIn K mainGlobals "_law_deed" = some (some (.ref f418)))
    (l420 : K.lookup f418 = some ⟨oc420, od420, .func (PySem.W.fnOf "_law_deed" "_law_deed" (defArgs s_law_deed) (defBody s_law_deed) (defScope s_law_deed) .none kV420 dc420 pm420 an420 cd420 ct420), sl420⟩)
    (c420 : PySem.W.codeIn K cd420 "_law_deed" = true)
    (k420 : PySem.W.keepIn K (.ref f418) = true)
    (l421 : K.lookup f0 = some ⟨oc421, od421, .func (PySem.W.fnOf "law" "law" (defArgs s_law) (defBody s_law) (defScope s_law) .none kV421 dc421 pm421 an421 cd421 ct421), sl421⟩)
    (c421 : PySem.W.codeIn K cd421 "law" = true)
    (k421 : PySem.W.keepIn K (.ref f0) = true)
    (z422 : PySem.W.nsIn K mainGlobals "isinstance" = some none)
    (z423 : PySem.W.nsIn K mainGlobals "str" = some none)
    (z424 : PySem.W.nsIn K mainGlobals "len" = some none)
    (z425 : PySem.W.nsIn K mainGlobals "super" = some none)
    (z426 : PySem.W.nsIn K mainGlobals "sorted" = some none)
    (z427 : PySem.W.nsIn K mainGlobals "abs" = some none)
    (z428 : PySem.W.nsIn K mainGlobals "int" = some none)
    (z429 : PySem.W.nsIn K mainGlobals "range" = some none)
    (z430 : PySem.W.nsIn K mainGlobals "bool" = some none)
    (z431 : PySem.W.nsIn K mainGlobals "max" = some none)
    (z432 : PySem.W.nsIn K mainGlobals "min" = some none)
    (z433 : PySem.W.fnIn K f394 = true)
    : ∃ fd : FuncData, (∀ (s : Shared) (v : Value), BindsTo s fd ⟨[v], []⟩ [("_law_script", v)]) ∧ ∀ base : Heap, K.In base → base.Ns mainGlobals mg → FnOk P w K mg base CX0 9 fa fd ["_law_script"] (spLaw K) := by
  have e := hfa0.symm.trans (PySem.W.mg_of X G a0)
  cases e
  exact all_mk X G hfa0 a2 r3 s4 z5 z7 z9 z11 z13 z15 z17 z19 z21 l23 z37 r38 l40 c40 k40 a42 l43 c43 k43 z44 a46 e49 e50 e51 e52 e53 e54 e55 e56 e57 e58 e59 e60 e61 e62 e63 e64 e65 e66 e67 e68 e69 e70 a72 e75 e76 e77 e78 e79 e80 e81 e82 e83 e84 e85 e86 e87 e88 e89 e90 e91 e92 e93 e94 e95 e96 a98 e101 e102 e103 e104 e105 e106 e107 e108 e109 e110 e111 e112 e113 e114 e115 e116 e117 e118 e119 e120 e121 e122 a124 e127 e128 e129 e130 e131 e132 e133 e134 e135 e136 e137 e138 e139 e140 e141 e142 e143 e144 e145 e146 e147 a149 e152 e153 e154 e155 e156 e157 e158 e159 e160 e161 e162 e163 e164 e165 e166 e167 e168 e169 e170 e171 a173 e176 e177 e178 e179 e180 e181 e182 e183 e184 e185 e186 e187 e188 e189 e190 e191 e192 e193 e194 e195 e196 e197 a199 e202 e203 e204 e205 e206 e207 e208 e209 e210 e211 e212 e213 e214 e215 e216 e217 e218 e219 e220 e221 e222 a224 e227 e228 e229 e230 e231 e232 e233 e234 e235 e236 e237 e238 e239 e240 e241 e242 e243 e244 e245 e246 e247 a249 e252 e253 e254 e255 e256 e257 e258 e259 e260 e261 e262 e263 e264 e265 e266 e267 e268 e269 e270 e271 e272 a274 q275 q276 q277 q278 z279 z280 z281 z282 z283 q285 q286 q287 q288 l289 c289 k289 a291 q292 q293 q294 q295 z296 z297 q299 q300 q301 q302 l303 c303 k303 a305 q306 q307 q308 q309 z310 z311 z312 z313 z314 q316 q317 q318 q319 l320 c320 k320 q322 q323 l324 c324 k324 q326 q327 l328 c328 k328 q330 q331 l332 c332 k332 q334 q335 l336 c336 k336 q338 q339 l340 c340 k340 lT347 q349 q350 l351 c351 k351 q353 q354 l355 c355 k355 q357 q358 l359 c359 k359 lT366 z369 q371 q372 l373 c373 k373 q375 q376 l377 c377 k377 q379 q380 l381 c381 k381 q383 q384 l385 c385 k385 q387 q388 l389 c389 k389 q391 q392 l393 c393 k393 q395 q396 l397 c397 k397 q399 q400 l401 c401 k401 z402 a404 l405 c405 k405 a407 l408 c408 k408 a410 l411 c411 k411 a413 l414 c414 k414 a416 l417 c417 k417 a419 l420 c420 k420 l421 c421 k421 z422 z423 z424 z425 z426 z427 z428 z429 z430 z431 z432 z433
end Ic
open PySem PySem.W PyProof.Rows
set_option maxRecDepth 100000 in
set_option maxHeartbeats 0 in
theorem PySem.Challenge.cw_innercommits_k03_values_of_records_holds : PySem.Challenge.rw_innercommits_k03_values_of_records.Holds := by
  w_on; o_law; k_head; (case hw => w_witness2)
  k_fill
  refine L2.walk_ofB (l := PySem.Challenge.rw_innercommits_k03_values_of_records) (n := 63) (k := 9) (x := "_law_script") (CX := fun _ => L2.CX0) (sp := fun w => Ic.spLaw _) rfl (by decide) rfl ⟨rfl, by decide, by decide⟩ (fun w h Y => PySem.W.kIn_of Y) ?F (fun _ _ a ns hl _ _ hS => ⟨a, ns, rfl, hS, hl, fun _ => rfl⟩) (fun _ _ _ _ _ h => h)
  case F =>
    intro w mg fa h KX G hmg
    refine' Ic.all_mk' KX G hmg ?a0 ?a2 ?r3 ?s4 ?z5 ?z7 ?z9 ?z11 ?z13 ?z15 ?z17 ?z19 ?z21 ?l23 ?z37 ?r38 ?l40 ?c40 ?k40 ?a42 ?l43 ?c43 ?k43 ?z44 ?a46 ?e49 ?e50 ?e51 ?e52 ?e53 ?e54 ?e55 ?e56 ?e57 ?e58 ?e59 ?e60 ?e61 ?e62 ?e63 ?e64 ?e65 ?e66 ?e67 ?e68 ?e69 ?e70 ?a72 ?e75 ?e76 ?e77 ?e78 ?e79 ?e80 ?e81 ?e82 ?e83 ?e84 ?e85 ?e86 ?e87 ?e88 ?e89 ?e90 ?e91 ?e92 ?e93 ?e94 ?e95 ?e96 ?a98 ?e101 ?e102 ?e103 ?e104 ?e105 ?e106 ?e107 ?e108 ?e109 ?e110 ?e111 ?e112 ?e113 ?e114 ?e115 ?e116 ?e117 ?e118 ?e119 ?e120 ?e121 ?e122 ?a124 ?e127 ?e128 ?e129 ?e130 ?e131 ?e132 ?e133 ?e134 ?e135 ?e136 ?e137 ?e138 ?e139 ?e140 ?e141 ?e142 ?e143 ?e144 ?e145 ?e146 ?e147 ?a149 ?e152 ?e153 ?e154 ?e155 ?e156 ?e157 ?e158 ?e159 ?e160 ?e161 ?e162 ?e163 ?e164 ?e165 ?e166 ?e167 ?e168 ?e169 ?e170 ?e171 ?a173 ?e176 ?e177 ?e178 ?e179 ?e180 ?e181 ?e182 ?e183 ?e184 ?e185 ?e186 ?e187 ?e188 ?e189 ?e190 ?e191 ?e192 ?e193 ?e194 ?e195 ?e196 ?e197 ?a199 ?e202 ?e203 ?e204 ?e205 ?e206 ?e207 ?e208 ?e209 ?e210 ?e211 ?e212 ?e213 ?e214 ?e215 ?e216 ?e217 ?e218 ?e219 ?e220 ?e221 ?e222 ?a224 ?e227 ?e228 ?e229 ?e230 ?e231 ?e232 ?e233 ?e234 ?e235 ?e236 ?e237 ?e238 ?e239 ?e240 ?e241 ?e242 ?e243 ?e244 ?e245 ?e246 ?e247 ?a249 ?e252 ?e253 ?e254 ?e255 ?e256 ?e257 ?e258 ?e259 ?e260 ?e261 ?e262 ?e263 ?e264 ?e265 ?e266 ?e267 ?e268 ?e269 ?e270 ?e271 ?e272 ?a274 ?q275 ?q276 ?q277 ?q278 ?z279 ?z280 ?z281 ?z282 ?z283 ?q285 ?q286 ?q287 ?q288 ?l289 ?c289 ?k289 ?a291 ?q292 ?q293 ?q294 ?q295 ?z296 ?z297 ?q299 ?q300 ?q301 ?q302 ?l303 ?c303 ?k303 ?a305 ?q306 ?q307 ?q308 ?q309 ?z310 ?z311 ?z312 ?z313 ?z314 ?q316 ?q317 ?q318 ?q319 ?l320 ?c320 ?k320 ?q322 ?q323 ?l324 ?c324 ?k324 ?q326 ?q327 ?l328 ?c328 ?k328 ?q330 ?q331 ?l332 ?c332 ?k332 ?q334 ?q335 ?l336 ?c336 ?k336 ?q338 ?q339 ?l340 ?c340 ?k340 ?lT347 ?q349 ?q350 ?l351 ?c351 ?k351 ?q353 ?q354 ?l355 ?c355 ?k355 ?q357 ?q358 ?l359 ?c359 ?k359 ?lT366 ?z369 ?q371 ?q372 ?l373 ?c373 ?k373 ?q375 ?q376 ?l377 ?c377 ?k377 ?q379 ?q380 ?l381 ?c381 ?k381 ?q383 ?q384 ?l385 ?c385 ?k385 ?q387 ?q388 ?l389 ?c389 ?k389 ?q391 ?q392 ?l393 ?c393 ?k393 ?q395 ?q396 ?l397 ?c397 ?k397 ?q399 ?q400 ?l401 ?c401 ?k401 ?z402 ?a404 ?l405 ?c405 ?k405 ?a407 ?l408 ?c408 ?k408 ?a410 ?l411 ?c411 ?k411 ?a413 ?l414 ?c414 ?k414 ?a416 ?l417 ?c417 ?k417 ?a419 ?l420 ?c420 ?k420 ?l421 ?c421 ?k421 ?z422 ?z423 ?z424 ?z425 ?z426 ?z427 ?z428 ?z429 ?z430 ?z431 ?z432 ?z433
    (case a0 => k_is)
    (case a2 => k_is)
    (case r3 => k_is)
    (case s4 => k_is)
    (case z5 => k_is)
    (case z7 => k_is)
    (case z9 => k_is)
    (case z11 => k_is)
    (case z13 => k_is)
    (case z15 => k_is)
    (case z17 => k_is)
    (case z19 => k_is)
    (case z21 => k_is)
    (case l23 => k_is)
    (case z37 => k_is)
    (case r38 => k_is)
    (case l40 => k_is)
    (case c40 => k_is)
    (case k40 => k_is)
    (case a42 => k_is)
    (case l43 => k_is)
    (case c43 => k_is)
    (case k43 => k_is)
    (case z44 => k_is)
    (case a46 => k_is)
    (case e49 => k_is)
    (case e50 => kernel_rfl)
    (case e51 => k_is)
    (case e52 => k_is)
    (case e53 => k_is)
    (case e54 => k_is)
    (case e55 => k_is)
    (case e56 => k_is)
    (case e57 => k_is)
    (case e58 => k_is)
    (case e59 => k_is)
    (case e60 => k_is)
    (case e61 => kernel_rfl)
    (case e62 => k_is)
    (case e63 => kernel_rfl)
    (case e64 => k_is)
    (case e65 => k_is)
    (case e66 => k_is)
    (case e67 => exact rfl)
    (case e68 => k_is)
    (case e69 => k_is)
    (case e70 => k_is)
    (case a72 => k_is)
    (case e75 => k_is)
    (case e76 => kernel_rfl)
    (case e77 => k_is)
    (case e78 => k_is)
    (case e79 => k_is)
    (case e80 => k_is)
    (case e81 => k_is)
    (case e82 => k_is)
    (case e83 => k_is)
    (case e84 => k_is)
    (case e85 => k_is)
    (case e86 => k_is)
    (case e87 => kernel_rfl)
    (case e88 => k_is)
    (case e89 => kernel_rfl)
    (case e90 => k_is)
    (case e91 => k_is)
    (case e92 => k_is)
    (case e93 => exact rfl)
    (case e94 => k_is)
    (case e95 => k_is)
    (case e96 => k_is)
    (case a98 => k_is)
    (case e101 => k_is)
    (case e102 => kernel_rfl)
    (case e103 => k_is)
    (case e104 => k_is)
    (case e105 => k_is)
    (case e106 => k_is)
    (case e107 => k_is)
    (case e108 => k_is)
    (case e109 => k_is)
    (case e110 => k_is)
    (case e111 => k_is)
    (case e112 => k_is)
    (case e113 => kernel_rfl)
    (case e114 => k_is)
    (case e115 => kernel_rfl)
    (case e116 => k_is)
    (case e117 => k_is)
    (case e118 => k_is)
    (case e119 => exact rfl)
    (case e120 => k_is)
    (case e121 => k_is)
    (case e122 => k_is)
    (case a124 => k_is)
    (case e127 => k_is)
    (case e128 => kernel_rfl)
    (case e129 => k_is)
    (case e130 => k_is)
    (case e131 => k_is)
    (case e132 => k_is)
    (case e133 => k_is)
    (case e134 => k_is)
    (case e135 => k_is)
    (case e136 => k_is)
    (case e137 => k_is)
    (case e138 => k_is)
    (case e139 => kernel_rfl)
    (case e140 => k_is)
    (case e141 => kernel_rfl)
    (case e142 => k_is)
    (case e143 => k_is)
    (case e144 => k_is)
    (case e145 => exact rfl)
    (case e146 => k_is)
    (case e147 => k_is)
    (case a149 => k_is)
    (case e152 => k_is)
    (case e153 => kernel_rfl)
    (case e154 => k_is)
    (case e155 => k_is)
    (case e156 => k_is)
    (case e157 => k_is)
    (case e158 => k_is)
    (case e159 => k_is)
    (case e160 => k_is)
    (case e161 => k_is)
    (case e162 => k_is)
    (case e163 => k_is)
    (case e164 => kernel_rfl)
    (case e165 => k_is)
    (case e166 => kernel_rfl)
    (case e167 => k_is)
    (case e168 => k_is)
    (case e169 => k_is)
    (case e170 => exact rfl)
    (case e171 => k_is)
    (case a173 => k_is)
    (case e176 => k_is)
    (case e177 => kernel_rfl)
    (case e178 => k_is)
    (case e179 => k_is)
    (case e180 => k_is)
    (case e181 => k_is)
    (case e182 => k_is)
    (case e183 => k_is)
    (case e184 => k_is)
    (case e185 => k_is)
    (case e186 => k_is)
    (case e187 => k_is)
    (case e188 => kernel_rfl)
    (case e189 => k_is)
    (case e190 => kernel_rfl)
    (case e191 => k_is)
    (case e192 => k_is)
    (case e193 => k_is)
    (case e194 => exact rfl)
    (case e195 => k_is)
    (case e196 => k_is)
    (case e197 => k_is)
    (case a199 => k_is)
    (case e202 => k_is)
    (case e203 => kernel_rfl)
    (case e204 => k_is)
    (case e205 => k_is)
    (case e206 => k_is)
    (case e207 => k_is)
    (case e208 => k_is)
    (case e209 => k_is)
    (case e210 => k_is)
    (case e211 => k_is)
    (case e212 => k_is)
    (case e213 => k_is)
    (case e214 => kernel_rfl)
    (case e215 => k_is)
    (case e216 => kernel_rfl)
    (case e217 => k_is)
    (case e218 => k_is)
    (case e219 => k_is)
    (case e220 => exact rfl)
    (case e221 => k_is)
    (case e222 => k_is)
    (case a224 => k_is)
    (case e227 => k_is)
    (case e228 => kernel_rfl)
    (case e229 => k_is)
    (case e230 => k_is)
    (case e231 => k_is)
    (case e232 => k_is)
    (case e233 => k_is)
    (case e234 => k_is)
    (case e235 => k_is)
    (case e236 => k_is)
    (case e237 => k_is)
    (case e238 => k_is)
    (case e239 => kernel_rfl)
    (case e240 => k_is)
    (case e241 => kernel_rfl)
    (case e242 => k_is)
    (case e243 => k_is)
    (case e244 => k_is)
    (case e245 => exact rfl)
    (case e246 => k_is)
    (case e247 => k_is)
    (case a249 => k_is)
    (case e252 => k_is)
    (case e253 => kernel_rfl)
    (case e254 => k_is)
    (case e255 => k_is)
    (case e256 => k_is)
    (case e257 => k_is)
    (case e258 => k_is)
    (case e259 => k_is)
    (case e260 => k_is)
    (case e261 => k_is)
    (case e262 => k_is)
    (case e263 => k_is)
    (case e264 => kernel_rfl)
    (case e265 => k_is)
    (case e266 => kernel_rfl)
    (case e267 => k_is)
    (case e268 => k_is)
    (case e269 => k_is)
    (case e270 => exact rfl)
    (case e271 => k_is)
    (case e272 => k_is)
    (case a274 => k_is)
    (case q275 => k_is)
    (case q276 => k_is)
    (case q277 => k_is)
    (case q278 => k_is)
    (case z279 => k_is)
    (case z280 => k_is)
    (case z281 => k_is)
    (case z282 => k_is)
    (case z283 => k_is)
    (case q285 => k_is)
    (case q286 => k_is)
    (case q287 => k_is)
    (case q288 => k_is)
    (case l289 => k_is)
    (case c289 => k_is)
    (case k289 => k_is)
    (case a291 => k_is)
    (case q292 => k_is)
    (case q293 => k_is)
    (case q294 => k_is)
    (case q295 => k_is)
    (case z296 => k_is)
    (case z297 => k_is)
    (case q299 => k_is)
    (case q300 => k_is)
    (case q301 => k_is)
    (case q302 => k_is)
    (case l303 => k_is)
    (case c303 => k_is)
    (case k303 => k_is)
    (case a305 => k_is)
    (case q306 => k_is)
    (case q307 => k_is)
    (case q308 => k_is)
    (case q309 => k_is)
    (case z310 => k_is)
    (case z311 => k_is)
    (case z312 => k_is)
    (case z313 => k_is)
    (case z314 => k_is)
    (case q316 => k_is)
    (case q317 => k_is)
    (case q318 => k_is)
    (case q319 => k_is)
    (case l320 => k_is)
    (case c320 => k_is)
    (case k320 => k_is)
    (case q322 => k_is)
    (case q323 => k_is)
    (case l324 => k_is)
    (case c324 => k_is)
    (case k324 => k_is)
    (case q326 => k_is)
    (case q327 => k_is)
    (case l328 => k_is)
    (case c328 => k_is)
    (case k328 => k_is)
    (case q330 => k_is)
    (case q331 => k_is)
    (case l332 => k_is)
    (case c332 => k_is)
    (case k332 => k_is)
    (case q334 => k_is)
    (case q335 => k_is)
    (case l336 => k_is)
    (case c336 => k_is)
    (case k336 => k_is)
    (case q338 => k_is)
    (case q339 => k_is)
    (case l340 => k_is)
    (case c340 => k_is)
    (case k340 => k_is)
    (case lT347 => k_is)
    (case q349 => k_is)
    (case q350 => k_is)
    (case l351 => k_is)
    (case c351 => k_is)
    (case k351 => k_is)
    (case q353 => k_is)
    (case q354 => k_is)
    (case l355 => k_is)
    (case c355 => k_is)
    (case k355 => k_is)
    (case q357 => k_is)
    (case q358 => k_is)
    (case l359 => k_is)
    (case c359 => k_is)
    (case k359 => k_is)
    (case lT366 => k_is)
    (case z369 => k_is)
    (case q371 => k_is)
    (case q372 => k_is)
    (case l373 => k_is)
    (case c373 => k_is)
    (case k373 => k_is)
    (case q375 => k_is)
    (case q376 => k_is)
    (case l377 => k_is)
    (case c377 => k_is)
    (case k377 => k_is)
    (case q379 => k_is)
    (case q380 => k_is)
    (case l381 => k_is)
    (case c381 => k_is)
    (case k381 => k_is)
    (case q383 => k_is)
    (case q384 => k_is)
    (case l385 => k_is)
    (case c385 => k_is)
    (case k385 => k_is)
    (case q387 => k_is)
    (case q388 => k_is)
    (case l389 => k_is)
    (case c389 => k_is)
    (case k389 => k_is)
    (case q391 => k_is)
    (case q392 => k_is)
    (case l393 => k_is)
    (case c393 => k_is)
    (case k393 => k_is)
    (case q395 => k_is)
    (case q396 => k_is)
    (case l397 => k_is)
    (case c397 => k_is)
    (case k397 => k_is)
    (case q399 => k_is)
    (case q400 => k_is)
    (case l401 => k_is)
    (case c401 => k_is)
    (case k401 => k_is)
    (case z402 => k_is)
    (case a404 => k_is)
    (case l405 => k_is)
    (case c405 => k_is)
    (case k405 => k_is)
    (case a407 => k_is)
    (case l408 => k_is)
    (case c408 => k_is)
    (case k408 => k_is)
    (case a410 => k_is)
    (case l411 => k_is)
    (case c411 => k_is)
    (case k411 => k_is)
    (case a413 => k_is)
    (case l414 => k_is)
    (case c414 => k_is)
    (case k414 => k_is)
    (case a416 => k_is)
    (case l417 => k_is)
    (case c417 => k_is)
    (case k417 => k_is)
    (case a419 => k_is)
    (case l420 => k_is)
    (case c420 => k_is)
    (case k420 => k_is)
    (case l421 => k_is)
    (case c421 => k_is)
    (case k421 => k_is)
    (case z422 => k_is)
    (case z423 => k_is)
    (case z424 => k_is)
    (case z425 => k_is)
    (case z426 => k_is)
    (case z427 => k_is)
    (case z428 => k_is)
    (case z429 => k_is)
    (case z430 => k_is)
    (case z431 => k_is)
    (case z432 => k_is)
    (case z433 => k_is)
#print axioms PySem.Challenge.cw_innercommits_k03_values_of_records_holds
