import PyProof.Rows.All
import Wide.All
import OpenK.AllK
import Wide.FinOn
import HandS.ForMost
import HandS.EndBits
import HandS.Wide
import HandS.IsInst
import HandS.Style
import HandS.Walk
import HandS.ClsMeth
import HandS.Conv
import HandS.ForExc
import HandS.ExcInit
import HandS.CallSlots
import HandS.Defaults
import HandS.ExcField
import HandS.Property
import HandS.WordsExc
import HandS.TryMany
import KE.KExcSuper
import HandS.HotCalls
import HandS.Dict
import HandS.Set
import HandS.SetBool
import HandS.SetFor
import HandS.Strs
import HandS.More
import PyProof.Rows.SortShellAny
import PyProof.Rows.SetFrom
import PyProof.Rows.SetObj
import HandS.TryOnly
import KE.SortData
import HandS.TupAny
import HandS.DictComp
import HandS.MakeKwOnly
import HandS.Codes
import PySem.Challenge.RW_innercommits_k49_entry_cases

set_option Elab.async false
set_option linter.all false
set_option maxRecDepth 100000
set_option maxHeartbeats 4000000
namespace Ic
open PySem L2
def top (i : Nat) : Stmt := PySem.Challenge.pw_innercommits_k49_entry_cases.main.body.getD i (.Pass ⟨0, 0, 0, 0⟩)
abbrev P : Program := PySem.Challenge.pw_innercommits_k49_entry_cases
/-! ### heaps -/
theorem sz_le {n m : Nat} (h : Nat.ble n m = true) : n ≤ m := Nat.le_of_ble_eq_true h
theorem sz_lt {n m : Nat} (h : Nat.blt n m = true) : n < m := Nat.le_of_ble_eq_true h
theorem upd_old {H : Hp} {p a : Addr} {o u : HO} (h : H a = some u) (hp : H p = none) : upd H p o a = some u := by
  rw [upd_ne (ne_of_none h hp)]; exact h
theorem upd_oth {H : Hp} {p a : Addr} {o u : HO} (hn : a ≠ p) (h : H a = some u) : upd H p o a = some u := by
  rw [upd_ne hn]; exact h
theorem cmul_l {i j : Int} (h : (decide (-(2 ^ 64) < i) && decide (i < 2 ^ 64)) = true) : CMul i j := by
  simp only [Bool.and_eq_true, decide_eq_true_eq] at h
  exact .inl h
theorem cmul_r {i j : Int} (h : (decide (-(2 ^ 64) < j) && decide (j < 2 ^ 64)) = true) : CMul i j := by
  simp only [Bool.and_eq_true, decide_eq_true_eq] at h
  exact .inr h
theorem cpow_lit {i j : Int} (h : (decide (0 ≤ j) && decide (j ≤ 1000000) && decide (i.natAbs < 2 ^ 64)) = true) : CPow i j := by
  simp only [Bool.and_eq_true, decide_eq_true_eq] at h
  exact ⟨h.1.1, h.1.2, h.2⟩
theorem cdiv_lit {i j : Int} (h : (decide (0 < j) && decide (j < 1073741824)) = true) : CDivW i j := by
  simp only [Bool.and_eq_true, decide_eq_true_eq] at h
  exact wide_div (b := 40) h.1 (by omega) (by decide) (by decide)
theorem none_upd {H : Hp} {p b : Addr} {o : HO} (h : upd H p o b = none) : b ≠ p ∧ H b = none := by
  by_cases e : b = p
  · rw [e, upd_same] at h; cases h
  · exact ⟨e, by rw [upd_ne e] at h; exact h⟩
/-- all that was tracked, but S, is as it was -/
def Kp (S : Addr → Prop) (H H' : Hp) : Prop := ∀ b u, H b = some u → ¬ S b → H' b = some u
theorem Kp.refl {S : Addr → Prop} {H : Hp} : Kp S H H := fun _ _ h _ => h
theorem Kp.trans {S : Addr → Prop} {H H1 H2 : Hp} (a : Kp S H H1) (b : Kp S H1 H2) : Kp S H H2 := fun c u h n => b c u (a c u h n) n
theorem Kp.new {S : Addr → Prop} {H H1 : Hp} {p : Addr} {o : HO} (a : Kp S H H1) (h : H1 p = none) : Kp S H (upd H1 p o) := fun c u e n => upd_old (a c u e n) h
theorem Kp.set {S : Addr → Prop} {H H1 : Hp} {p : Addr} {o : HO} (a : Kp S H H1) (h : S p) : Kp S H (upd H1 p o) := fun c u e n => upd_oth (fun z => n (z ▸ h)) (a c u e n)
theorem Kp.set1 {H H1 : Hp} {p : Addr} {o : HO} (a : Kp (fun b => b = p) H H1) : Kp (fun b => b = p) H (upd H1 p o) := a.set rfl
/-- p is none of H's -/
theorem Kp.fresh {S : Addr → Prop} {H H1 : Hp} {p : Addr} {o : HO} (a : Kp S H H1) (h : H p = none) : Kp S H (upd H1 p o) := fun c u e n => upd_oth (ne_of_none e h) (a c u e n)
theorem Kp.mono {S S' : Addr → Prop} {H H1 : Hp} (a : Kp S H H1) (h : ∀ b, S b → S' b) : Kp S' H H1 := fun c u e n => a c u e fun z => n (h c z)
theorem Kp.same {S : Addr → Prop} {H H1 H2 : Hp} (a : Same H H1) (b : Kp S H1 H2) (n : ∀ c, S c → H c = none) : Same H H2 := fun c u h => b c u (a c u h) fun z => by
  rw [n c z] at h; cases h
theorem Kp.of_same {S : Addr → Prop} {H H1 : Hp} (a : Same H H1) : Kp S H H1 := fun c u h _ => a c u h
theorem _root_.L2.Same.new {H H1 : Hp} {p : Addr} {o : HO} (a : Same H H1) (h : H1 p = none) : Same H (upd H1 p o) := fun c u e => upd_old (a c u e) h
theorem _root_.L2.Same.frsh {H H1 : Hp} {p : Addr} {o : HO} (a : Same H H1) (h : H p = none) : Same H (upd H1 p o) := fun c u e => upd_oth (ne_of_none e h) (a c u e)
theorem tyV_lst {K : PySem.W.Frag} {H : Hp} {p : Addr} {xs : List V} (h : SqL K H p xs) : tyV K "list" (.ref p) H := .inl ⟨rfl, xs, h⟩
class RdTy (α : Type) : Prop
instance : RdTy V := ⟨⟩
instance : RdTy Int := ⟨⟩
instance : RdTy Nat := ⟨⟩
instance : RdTy Bool := ⟨⟩
instance : RdTy Str := ⟨⟩
instance : RdTy HO := ⟨⟩
instance : RdTy Value := ⟨⟩
instance : RdTy Obj := ⟨⟩
instance {α : Type} : RdTy (List α) := ⟨⟩
instance {α : Type} : RdTy (Array α) := ⟨⟩
instance {α β : Type} : RdTy (Sum α β) := ⟨⟩
theorem exI {α : Type} [RdTy α] {p : α → Prop} (w : α) (h : p w) : Exists p := ⟨w, h⟩
/-! ### the pool -/
def PoolO (o : HO) (c : Nat) : Prop := ∃ a b n : Int, o = .lst [.int a, .int b, .int n] ∧ 0 ≤ a ∧ 0 ≤ b ∧ b < 2 ^ 62 ∧ 0 ≤ n ∧ n ≤ c
def PoolAt (H : Hp) (p : Addr) (c : Nat) : Prop := ∃ o, H p = some o ∧ PoolO o c
theorem PoolO.mono {o : HO} {c d : Nat} (h : PoolO o c) (l : c ≤ d) : PoolO o d := by
  obtain ⟨a, b, n, e, h1, h2, h3, h4, h5⟩ := h
  exact ⟨a, b, n, e, h1, h2, h3, h4, by omega⟩
def spPool (K : PySem.W.Frag) : Sp := fun vs H Q _ => ∃ (a : Addr) (ns : List Int) (i : Nat), vs = [.ref a, .int (i : Int)] ∧ SqL K H a (ns.map V.int) ∧ i < 1000 ∧
  ∀ p o, H p = none → PoolO o 0 → Q (.ref p) (upd H p o)
def spDraw : Sp := fun vs H Q _ => ∃ (p : Addr) (m : Int) (c : Nat) (o : HO), vs = [.ref p, .int m] ∧ H p = some o ∧ PoolO o c ∧ 0 < m ∧ m < 2 ^ 200 ∧ c < 2 ^ 40 ∧
  ∀ r o', 0 ≤ r → r < m → PoolO o' (c + 1) → Q (.int r) (upd H p o')
local macro_rules | `(tactic| walk_at "hp") => `(tactic| first | with_reducible assumption | with_reducible exact upd_same | (with_reducible apply upd_old; (focus (walk_at "hp")); (focus with_reducible assumption)) | (with_reducible apply upd_oth; (focus (first | with_reducible assumption | (with_reducible apply Ne.symm; with_reducible assumption))); walk_at "hp"))
local macro_rules | `(tactic| walk_at "sq") => `(tactic| first | with_reducible assumption | (with_reducible apply SqL.of; walk_at "hp") | (with_reducible apply SqT.of; walk_at "hp"))
local macro_rules | `(tactic| walk_at "side") => `(tactic| first | with_reducible assumption | exact ⟨_, rfl⟩ | walk_at "hp" | walk_at "sq" | (with_reducible apply tyV_lst; walk_at "sq") | (with_reducible apply Or.inl; walk_at "sq") | (with_reducible apply Or.inr; walk_at "sq") | with_reducible exact cmul_l (by decide) | with_reducible exact cmul_r (by decide) | with_reducible exact cpow_lit (by decide) | with_reducible exact cdiv_lit (by decide) | decide | exact sz_le rfl | exact sz_lt rfl | omega)
local macro_rules | `(tactic| walk_at "kp") => `(tactic| first | with_reducible assumption | with_reducible exact Kp.refl | (with_reducible apply Kp.set1; walk_at "kp") | (with_reducible apply Kp.new; (focus (walk_at "kp")); (focus with_reducible assumption)) | (with_reducible apply Kp.fresh; (focus (walk_at "kp")); (focus with_reducible assumption)))
local macro_rules | `(tactic| walk_at "rd1") => `(tactic| first
  | refine And.intro rfl ?_
  | apply exI
  | (refine Or.inl ?_; apply exI; refine And.intro rfl ?_)
  | (refine Or.inr ?_; apply exI; refine And.intro rfl ?_)
  | (refine And.intro ?_ ?_; (focus (walk_at "side"))))
local macro_rules | `(tactic| walk_at "rd") => `(tactic| repeat (walk_at "rd1"))
/-! ### further rules: a staticmethod called off its class, list of a text -/
/-- C.m is a staticmethod: its record at p, its def at f -/
structure SMet (K : PySem.W.Frag) (C : Addr) (mc : Value) (m : Str) (p f : Addr) : Prop where
  at_ : PySem.W.findCls K (.ref C) mc m = some (.get (.builtin "staticmethod.__get__") (.ref p) .none (.ref C))
  rc : ∃ rest, PySem.W.recIn K p "staticmethod" = some (.ref f :: rest)
def tSMeth (C : Addr) (sp : Sp) (dvs : List V) (E : XK) (ta : TE) (t : TA) : TE := fun σ H Q => ta σ H fun x H1 => x = .ref C ∧ t σ H1 fun vs H2 => sp (vs ++ dvs) H2 Q E
theorem pe_smeth {X : Cx} {CX : CXT} {k : Nat} {C p f : Addr} {fd : FuncData} {ps : List Str} {ds : List Value} {dvs : List V} {mc : Value} {sp : Sp} {E : XK} {o e : Expr} {es : List Expr} {m : Str} {pos apos : Pos} {ta : TE} {t : TA} {pl : Sem Bool}
    (he : PE X o ta) (r : ClX.CRead X.K C mc) (c : SMet X.K C mc m p f) (F : FnOk X.prog X.w X.K X.mg X.base CX k f fd ps sp) (hr : Room k X.A) (hk : PySem.W.keepIn X.K (.ref f) = true) (hb : Binds X.K fd ps ds) (hd : Vals dvs ds) (hx : Passes CX X E) (ha : PA X (e :: es) t)
    (hst : starEach (e :: es) X.env = (false, eval e X.env) :: starEach es X.env := by rfl) (hpl : (backTo pos (starEach es X.env)).any (·.1) = false := by rfl)
    (ht : eval (.Call (.Attribute o m apos) (e :: es) [] pos) X.env = (do
      let ov ← eval o X.env
      standAt apos.atName
      let (f, first) ← holding [ov] (getMethod ov m pl)
      callWith pos f first (backTo pos (starEach (e :: es) X.env)) (backToKw pos (keywordEach [] X.env))) := by rfl) :
    PE X (.Call (.Attribute o m apos) (e :: es) [] pos) (tSMeth C sp dvs E ta t) := by
  refine ⟨fun pins s σ H Q I h => ?_⟩
  refine PySem.W.methodCall_KW (pl := pl) (thn (he.run pins s σ H _ I h) fun u s1 ⟨x, H1, I1, rx, ex, q⟩ => ?_) ht
  subst ex
  obtain rfl : u = Value.ref C := rx
  obtain ⟨rest, hp⟩ := c.rc
  refine PySem.W.method_cls I1.kIn r.ga (PySem.W.cls_bind I1.kIn r.rd c.at_ ?_)
  refine wpAny_call (PySem.W.sm_get (s := { s1 with toks := s1.toks + 1 }) I1.kIn hp (PySem.W.handed_on rfl ?_))
  have I2 := I1.tok (s1.toks + 1)
  refine PySem.W.callWith_K (h₀ := X.base) (first := []) I2.ok.mod.kin hk (thn (ha.run pos pins _ σ H1 _ I2 q) fun us s3 ⟨vs, H2, I3, rv, q2⟩ => ⟨I3.kIn, ?_⟩) hst hpl
  exact run_fn F hr hb hd hx I3 rv q2
theorem call_list_text {X : Cx} (hc : X.calm = true) : CallR X (.type "list") (fun xs H Q => ∃ z : Str, xs = [.str z] ∧ z.length ≤ sizeLine ∧ ∀ l, H l = none → Q (.ref l) (upd H l (.lst (z.cps.toList.map fun c => .str ⟨#[c]⟩)))) := by
  intro pins s σ H xs us Q I r h
  obtain ⟨z, rfl, hz, q⟩ := h
  obtain ⟨u, rfl, t, rfl⟩ := vals1 r
  refine call_list_str (I.ok.hd hc) z t (fun h' tk acc c' kp e it => ?_) hz
  have hv : Vals (z.cps.toList.map fun c => V.str ⟨#[c]⟩) acc.toList := by
    refine vals_of_at (by rw [List.length_map, Array.length_toList, Array.length_toList, it.1]) fun j x u e1 e2 => ?_
    rw [Array.getElem?_toList] at e2
    obtain ⟨c, tk, hc1, rfl⟩ := it.2 j u e2
    rw [List.getElem?_map, Array.getElem?_toList, hc1] at e1
    cases e1
    exact ⟨tk, rfl⟩
  refine ⟨.ref s.heap.objs.size, _, I.laid (o := .lst (z.cps.toList.map fun c => V.str ⟨#[c]⟩)) (t' := tk) kp (Nat.le_refl _) ?_, rfl, q _ (I.hok.fresh (Nat.le_refl _))⟩
  exact ⟨by rw [List.length_map, Array.length_toList]; exact hz, acc.toList, c', hv, by simpa using e⟩
/-! ### data: == of lists and tuples -/
theorem eqvAll_nil {ds : List PyData} : PyData.eqvAll ds [] = ds.isEmpty := by
  cases ds <;> rfl
def asc (z : Str) : Prop := ∀ c ∈ z.cps.toList, c < 128
theorem asc_ok {z : Str} (h : asc z) : PyData.strOk z = true := by
  unfold PyData.strOk
  rw [Array.all_eq_true]
  intro i hi
  have := h z.cps[i] (by rw [Array.mem_toList_iff]; exact Array.getElem_mem hi)
  simp; omega
theorem dp_strs {K : PySem.W.Frag} {H : Hp} : ∀ ys : List Str, DpAll K H (ys.map V.str) (ys.map PyData.str)
  | [] => .nil
  | y :: r => .cons (.str y) (dp_strs r)
theorem lay_strs : ∀ {ys : List Str}, (∀ y ∈ ys, asc y) → PyData.canLayAll0 (ys.map PyData.str) = true
  | [], _ => rfl
  | y :: r, h => by
    show (PyData.strOk y && PyData.canLayAll0 (r.map PyData.str)) = true
    rw [asc_ok (h y List.mem_cons_self), lay_strs fun z hz => h z (List.mem_cons_of_mem _ hz)]; rfl
theorem depth_strs : ∀ ys : List Str, PyData.depthAll (ys.map PyData.str) = 0
  | [] => rfl
  | y :: r => by
    show max 0 (PyData.depthAll (r.map PyData.str)) = 0
    rw [depth_strs r]; rfl
theorem shaped_strs {ys : List Str} (h : ∀ y ∈ ys, asc y) : SeqAt.shaped (.list (ys.map PyData.str)) = true := by
  show (PyData.canLayAll0 (ys.map PyData.str) && decide (PyData.depthAll (ys.map PyData.str) + 1 ≤ 64)) = true
  rw [lay_strs h, depth_strs]; rfl
/-! ### letters -/
def Lets (cs : List Nat) : Prop := ∀ c ∈ cs, 97 ≤ c ∧ c ≤ 122
def chr1 (c : Nat) : Str := ⟨#[c]⟩
structure IsWord (w : Str) : Prop where
  lo : 1 ≤ w.cps.toList.length
  hi : w.cps.toList.length ≤ 8
  al : Lets w.cps.toList
def alpha : Str := "abcdefghijklmnopqrstuvwxyz"
theorem alpha_all : ∀ n : Nat, n < 26 → alpha.cps.toList[n]? = some (97 + n) := by
  have h : (List.range 26).all (fun n => decide (alpha.cps.toList[n]? = some (97 + n))) = true := by decide +kernel
  intro n hn
  exact of_decide_eq_true (List.all_eq_true.mp h n (List.mem_range.mpr hn))
theorem alpha_at {r : Int} (h0 : 0 ≤ r) (h1 : r < 26) : atI alpha.cps.toList r = some (97 + r.toNat) := by
  have e : ((r.toNat : Nat) : Int) = r := by omega
  have h := atI_nat (alpha_all r.toNat (by omega))
  rw [e] at h
  exact h
theorem join_chr : ∀ cs : List Nat, Txt.join (Str.ofString "") (cs.map chr1) = ⟨cs.toArray⟩ := by
  intro cs
  show Builtin.Str.glued (Str.ofString "") (cs.map chr1) = _
  rw [StrLaws.glued_eq_join]
  have e0 : (Str.ofString "") = Str.empty := by decide +kernel
  rw [e0]
  induction cs with
  | nil => rfl
  | cons c r ih =>
    cases r with
    | nil => rfl
    | cons b r =>
      show chr1 c ++ Str.empty ++ Str.join Str.empty ((b :: r).map chr1) = _
      rw [ih]
      show (⟨(#[c] ++ #[]) ++ (b :: r).toArray⟩ : Str) = ⟨(c :: b :: r).toArray⟩
      simp
theorem sum_chr : ∀ cs : List Nat, ((cs.map chr1).map (·.length)).sum = cs.length
  | [] => rfl
  | c :: r => by
    show 1 + ((r.map chr1).map (·.length)).sum = r.length + 1
    rw [sum_chr r]; omega
theorem alpha_len : alpha.length ≤ sizeLine := by decide +kernel
/-- [letters[draw(pool, 26)] for k in range(n)] -/
theorem lc_letters {n i0 i1 ik : Nat} {σ : St} {H1 : Hp} {D p : Addr} {o : HO} {c : Nat} {Qd : Hp → Prop} (hD : H1 D = none) (hp : H1 p = some o) (hc : PoolO o c) (hb : c + n < 2 ^ 40) (hn : n < 1000000)
    (s0 : σ[i0]? = some (some (.ref p))) (s1 : σ[i1]? = some (some (.str alpha))) (n0 : i0 ≠ ik) (n1 : i1 ≠ ik)
    (q : ∀ H' cs o', cs.length = n → Lets cs → Kp (fun b => b = p) H1 H' → H' p = some o' → PoolO o' (c + n) → H' D = some (.lst ((cs.map chr1).map V.str)) → Qd H') :
    ∃ W : Nat → Nat → Hp → Prop, (∃ m, W 0 m (upd H1 D (.lst []))) ∧ ∀ i m H, W i m H →
      ((Itr 0 n).stop i H ∧ Qd H) ∨ ((Itr 0 n).go i H ∧ ∃ Nx : Hp → Prop, (∀ H', Nx H' → ∃ m', m' < m ∧ W (i + 1) m' H') ∧ ∀ x H', (Itr 0 n).yld i H x H' → gName ik x (wipe σ [ik]) H' fun σ2 H2 => wipe σ2 [ik] = wipe σ [ik] ∧ tYes σ2 H2 fun b H3 =>
        if b = true then tOp rIxS (tVar i1) (tCall spDraw [] E0 (tCons (tVar i0) (tCons (tC (.int 26)) tNil))) σ2 H3 fun y H4 => ∃ acc, H4 D = some (.lst acc) ∧ acc.length < sizeLine ∧ Nx (upd H4 D (.lst (acc ++ [y]))) else Nx H3) := by
  have npD : p ≠ D := ne_of_none hp hD
  have w0 : ∀ v, ((wipe σ [ik]).set ik (some v))[i0]? = some (some (.ref p)) := fun v => by
    rw [List.getElem?_set_ne (Ne.symm n0), wipe_out (by simp [n0])]; exact s0
  have w1 : ∀ v, ((wipe σ [ik]).set ik (some v))[i1]? = some (some (.str alpha)) := fun v => by
    rw [List.getElem?_set_ne (Ne.symm n1), wipe_out (by simp [n1])]; exact s1
  refine lc_range (fun i H => ∃ cs o', cs.length = i ∧ Lets cs ∧ Kp (fun b => b = p) H1 H ∧ H p = some o' ∧ PoolO o' (c + i) ∧ H D = some (.lst ((cs.map chr1).map V.str))) ?_ ?_ ?_
  · exact ⟨[], o, rfl, (fun _ h => nomatch h), Kp.refl.new hD, upd_old hp hD, hc, upd_same⟩
  · rintro i H hi ⟨cs, o', e1, e2, e3, e4, e5, e6⟩
    refine ⟨?_, ?_⟩
    · show wipe ((wipe σ [ik]).set ik _) [ik] = wipe σ [ik]
      show (((σ.set ik none).set ik _).set ik none) = σ.set ik none
      rw [List.set_set, List.set_set]
    · refine ⟨_, w1 _, _, w0 _, p, 26, c + i, o', rfl, e4, e5, by decide, by decide, by omega, fun r o2 r0 r1 h2 => ?_⟩
      refine ⟨alpha, r, _, rfl, rfl, alpha_len, alpha_at r0 r1, (cs.map chr1).map V.str, upd_oth (Ne.symm npD) e6, ?_, ?_⟩
      · rw [List.length_map, List.length_map, e1, sizeLine_eq]; omega
      · refine ⟨cs ++ [97 + r.toNat], o2, ?_, ?_, ?_, ?_, h2, ?_⟩
        · rw [List.length_append, e1]; rfl
        · intro x hx
          rcases List.mem_append.mp hx with h | h
          · exact e2 x h
          · rw [List.mem_singleton] at h
            subst h
            omega
        · exact (e3.set rfl).fresh hD
        · exact upd_oth npD upd_same
        · rw [upd_same, List.map_append, List.map_append]; rfl
  · rintro H ⟨cs, o', e1, e2, e3, e4, e5, e6⟩
    exact q H cs o' e1 e2 e3 e4 e5 e6
def spWord : Sp := fun vs H Q _ => ∃ (p : Addr) (c : Nat) (o : HO), vs = [.ref p] ∧ H p = some o ∧ PoolO o c ∧ c < 2 ^ 39 ∧
  ∀ w o' H', IsWord w → PoolO o' (c + 9) → H' p = some o' → Kp (fun b => b = p) H H' → Q (.str w) H'
/-! ### words -/
def okC (c : Nat) : Bool := decide (97 ≤ c) && decide (c ≤ 122)
def wordS (z : Str) : Bool := decide (1 ≤ z.length) && decide (z.length ≤ 8) && z.cps.toList.all okC
def wordB : V → Bool
  | .str z => wordS z
  | _ => false
inductive Thing (H : Hp) : V → Prop
  | str (z : Str) (h : z.length ≤ 1000) (ha : asc z) : Thing H (.str z)
  | int (i : Int) : Thing H (.int i)
  | bl (b : Bool) : Thing H (.bl b)
  | non : Thing H .non
  | lst {p : Addr} {xs : List V} (h : H p = some (.lst xs)) : Thing H (.ref p)
  | tup {p : Addr} {xs : List V} (h : H p = some (.tup xs)) : Thing H (.ref p)
theorem Thing.same {H H' : Hp} {v : V} (s : Same H H') (t : Thing H v) : Thing H' v := by
  cases t with
  | str z h ha => exact .str z h ha
  | int i => exact .int i
  | bl b => exact .bl b
  | non => exact .non
  | lst h => exact .lst (s _ _ h)
  | tup h => exact .tup (s _ _ h)
def strB : V → Bool
  | .str _ => true
  | _ => false
theorem Thing.isi {K : PySem.W.Frag} {H : Hp} {v : V} (t : Thing H v) : ∃ ty, TyX K H v ty ∧ PySem.W.kitOne K ty (.type "str") = some (strB v) := by
  cases t with
  | str z h ha => exact ⟨_, .base (.str z), kit_ty (show kitB "str" "str" = some true by decide +kernel)⟩
  | int i => exact ⟨_, .base (.int i), kit_ty (show kitB "int" "str" = some false by decide +kernel)⟩
  | bl b => exact ⟨_, .base (.bl b), kit_ty (show kitB "bool" "str" = some false by decide +kernel)⟩
  | non => exact ⟨_, .base .non, kit_ty (by decide +kernel)⟩
  | lst h => exact ⟨_, .base (.lst h), kit_ty (show kitB "list" "str" = some false by decide +kernel)⟩
  | tup h => exact ⟨_, .base (.tup h), kit_ty (show kitB "tuple" "str" = some false by decide +kernel)⟩
theorem list1_lt (a b : Nat) : ([a] : List Nat) < [b] ↔ a < b := by
  constructor
  · intro h
    cases h with
    | rel h => exact h
    | cons h => cases h
  · intro h
    exact .rel h
theorem le_a (c : Nat) : (!decide ((⟨#[c]⟩ : Str).cps.toList < (Str.ofString "a").cps.toList)) = decide (97 ≤ c) := by
  have e : (Str.ofString "a").cps.toList = [97] := by decide +kernel
  rw [e, ← decide_not]
  apply decide_eq_decide.mpr
  show ¬ ([c] < [97]) ↔ _
  rw [list1_lt]; omega
theorem le_z (c : Nat) : (!decide ((Str.ofString "z").cps.toList < (⟨#[c]⟩ : Str).cps.toList)) = decide (c ≤ 122) := by
  have e : (Str.ofString "z").cps.toList = [122] := by decide +kernel
  rw [e, ← decide_not]
  apply decide_eq_decide.mpr
  show ¬ ([122] < [c]) ↔ _
  rw [list1_lt]; omega
theorem all_take {α : Type} {p : α → Bool} {l : List α} {i : Nat} {x : α} (h : l[i]? = some x) (a : (l.take i).all p = true) (b : p x = true) : (l.take (i + 1)).all p = true := by
  rw [List.take_add_one, h, List.all_append, a, Bool.true_and]
  show ([x] : List α).all p = true
  rw [List.all_cons, b]; rfl
theorem all_no {α : Type} {p : α → Bool} {l : List α} {i : Nat} {x : α} (h : l[i]? = some x) (b : p x = false) : l.all p = false := by
  cases e : l.all p with
  | false => rfl
  | true =>
    rw [List.all_eq_true.mp e x (List.mem_of_getElem? h)] at b
    cases b
theorem len_toList (z : Str) : z.cps.toList.length = z.length := by simp [Str.length]
theorem IsWord.ok {w : Str} (h : IsWord w) : wordS w = true := by
  unfold wordS
  rw [← len_toList, decide_eq_true h.lo, decide_eq_true h.hi, Bool.true_and, Bool.true_and, List.all_eq_true]
  intro c hc
  have := h.al c hc
  unfold okC
  rw [decide_eq_true this.1, decide_eq_true this.2]; rfl
theorem wordS_of {z : Str} (h : wordS z = true) : IsWord z := by
  unfold wordS at h
  rw [Bool.and_eq_true, Bool.and_eq_true, decide_eq_true_eq, decide_eq_true_eq, List.all_eq_true] at h
  refine ⟨by rw [len_toList]; exact h.1.1, by rw [len_toList]; exact h.1.2, fun c hc => ?_⟩
  have := h.2 c hc
  unfold okC at this
  rw [Bool.and_eq_true, decide_eq_true_eq, decide_eq_true_eq] at this
  exact this
def spIsWord : Sp := fun vs H Q _ => ∃ v, vs = [v] ∧ Thing H v ∧ Q (.bl (wordB v)) H
/-! ### a dict comprehension over a list that stays -/
section
open PySem PySem.Spec PyProof.Rows
theorem dc_list {K : PySem.W.Frag} {a : Addr} {xs : List V} {g : TG} {tt : TT} {tk tv : TE} {vs : List Nat} {σ : L2.St} {H1 : Hp} {D : Addr} {Qd : Hp → Prop} (Pv : Nat → Hp → Prop) (h0 : Pv 0 (upd H1 D (.dK []))) (hl : ∀ i H, i ≤ xs.length → Pv i H → SqL K H a xs)
    (hs : ∀ i x H, xs[i]? = some x → Pv i H → g x (wipe σ vs) H fun σ2 H2 => wipe σ2 vs = wipe σ vs ∧ tt σ2 H2 fun b H3 =>
      if b = true then tk σ2 H3 fun y H4 => tv σ2 H4 fun z H5 => ∃ kvs k, y = kV k ∧ H5 D = some (.dK kvs) ∧ kvs.length < sizeLine ∧ Pv (i + 1) (upd H5 D (.dK (putK kvs k z))) else Pv (i + 1) H3) (hd : ∀ H, Pv xs.length H → Qd H) :
    ∃ W : Nat → Nat → Hp → Prop, (∃ m, W 0 m (upd H1 D (.dK []))) ∧ ∀ i m H, W i m H →
      ((Itl K a).stop i H ∧ Qd H) ∨ ((Itl K a).go i H ∧ ∃ Nx : Hp → Prop, (∀ H', Nx H' → ∃ m', m' < m ∧ W (i + 1) m' H') ∧ ∀ x H', (Itl K a).yld i H x H' → g x (wipe σ vs) H' fun σ2 H2 => wipe σ2 vs = wipe σ vs ∧ tt σ2 H2 fun b H3 =>
        if b = true then tk σ2 H3 fun y H4 => tv σ2 H4 fun z H5 => ∃ kvs k, y = kV k ∧ H5 D = some (.dK kvs) ∧ kvs.length < sizeLine ∧ Nx (upd H5 D (.dK (putK kvs k z))) else Nx H3) := by
  refine ⟨fun i m H => m = xs.length - i ∧ i ≤ xs.length ∧ Pv i H, ⟨xs.length, by simp, Nat.zero_le _, h0⟩, ?_⟩
  rintro i m H ⟨rfl, hi, p⟩
  have q := hl i H hi p
  by_cases hlt : i < xs.length
  · refine .inr ⟨⟨xs, xs[i], q, by simp [hlt]⟩, Pv (i + 1), fun H' p' => ⟨xs.length - (i + 1), by omega, rfl, hlt, p'⟩, fun x H' y => ?_⟩
    obtain ⟨e, y⟩ := y
    subst e
    exact hs i x _ (y xs q) p
  · have e : i = xs.length := by omega
    subst e
    exact .inl ⟨⟨xs, q, Nat.le_refl _⟩, hd H p⟩
end
/-! ### rules within a comprehension: the text's K by name -/
section
variable {X : Cx} {K : PySem.W.Frag}
theorem pe_fldK {o : Expr} {f : Str} {pos : Pos} {ta : TE} (hK : X.K = K) (ho : PE X o ta) (hab : attributeBase o f X.env (eval o X.env) = eval o X.env) : PE X (.Attribute o f pos) (tFld K ta f) := hK ▸ pe_fld ho hab
theorem op_inK (hK : X.K = K) : OpR X (compareOp .In) (rIn K false) := hK ▸ op_in_seq
theorem op_notInK (hK : X.K = K) : OpR X (compareOp .NotIn) (rIn K true) := hK ▸ op_notIn_seq
theorem ix_listK (hK : X.K = K) : IxR X (rIxL K) := hK ▸ ix_list
theorem ix_tupK (hK : X.K = K) : IxR X (rIxT K) := hK ▸ ix_tup
theorem op_eqDK (hK : X.K = K) (hu : X.A.units + 64 < cLine) : OpR X (compareOp .Eq) (rEqD K) := hK ▸ op_eqD hu
theorem op_neDK (hK : X.K = K) (hu : X.A.units + 64 < cLine) : OpR X (compareOp .NotEq) (rNeD K) := hK ▸ op_neD hu
end
/-! ### further rules within a comprehension -/
theorem call_len_seqK {X : Cx} {K : PySem.W.Frag} (hK : X.K = K) : CallR X (.builtin "len") (fun xs H Q => ∃ p ys, xs = [V.ref p] ∧ (SqL K H p ys ∨ SqT K H p ys) ∧ Q (V.int (ys.length : Int)) H) := hK ▸ call_len_seq
theorem pi_listK {X : Cx} {K : PySem.W.Frag} {tg l : Expr} {tl : TE} (hK : X.K = K) (hl : PE X l tl) : PI X tg l (iList K tl) := hK ▸ pi_list hl
theorem pi_tupK {X : Cx} {K : PySem.W.Frag} {tg l : Expr} {tl : TE} (hK : X.K = K) (hl : PE X l tl) : PI X tg l (iTup K tl) := hK ▸ pi_tup hl
/-! ### a dict comprehension over anything that is walked -/
section
open PySem PySem.Spec PyProof.Rows
theorem dc_it {J : It} {n : Nat} {G : Hp → Prop} {Y : Nat → Hp → V → Hp → Prop} (w : Walk J n G Y) {g : TG} {tt : TT} {tk tv : TE} {vs : List Nat} {σ : L2.St} {H1 : Hp} {D : Addr} {Qd : Hp → Prop} (Pv : Nat → Hp → Prop) (h0 : Pv 0 (upd H1 D (.dK []))) (hG : ∀ i H, i ≤ n → Pv i H → G H)
    (hs : ∀ i x H H', i < n → Pv i H → Y i H x H' → g x (wipe σ vs) H' fun σ2 H2 => wipe σ2 vs = wipe σ vs ∧ tt σ2 H2 fun b H3 =>
      if b = true then tk σ2 H3 fun y H4 => tv σ2 H4 fun z H5 => ∃ kvs k, y = kV k ∧ H5 D = some (.dK kvs) ∧ kvs.length < sizeLine ∧ Pv (i + 1) (upd H5 D (.dK (putK kvs k z))) else Pv (i + 1) H3) (hd : ∀ H, Pv n H → Qd H) :
    ∃ W : Nat → Nat → Hp → Prop, (∃ m, W 0 m (upd H1 D (.dK []))) ∧ ∀ i m H, W i m H →
      (J.stop i H ∧ Qd H) ∨ (J.go i H ∧ ∃ Nx : Hp → Prop, (∀ H', Nx H' → ∃ m', m' < m ∧ W (i + 1) m' H') ∧ ∀ x H', J.yld i H x H' → g x (wipe σ vs) H' fun σ2 H2 => wipe σ2 vs = wipe σ vs ∧ tt σ2 H2 fun b H3 =>
        if b = true then tk σ2 H3 fun y H4 => tv σ2 H4 fun z H5 => ∃ kvs k, y = kV k ∧ H5 D = some (.dK kvs) ∧ kvs.length < sizeLine ∧ Nx (upd H5 D (.dK (putK kvs k z))) else Nx H3) := by
  refine ⟨fun i m H => m = n - i ∧ i ≤ n ∧ Pv i H, ⟨n, by simp, Nat.zero_le _, h0⟩, ?_⟩
  rintro i m H ⟨rfl, hi, p⟩
  by_cases hlt : i < n
  · refine .inr ⟨w.goes i H hlt (hG i H hi p), Pv (i + 1), fun H' p' => ⟨n - (i + 1), by omega, rfl, hlt, p'⟩, fun x H' y => ?_⟩
    exact hs i x H H' hlt p (w.yields i H x H' hlt (hG i H hi p) y)
  · have e : i = n := by omega
    subst e
    exact .inl ⟨w.stops H (hG i H (Nat.le_refl _) p), hd H p⟩
theorem pg_tupK {X : Cx} {K : PySem.W.Frag} {es : List Expr} {k : Nat} {pos : Pos} {t : TGs} (n : Nat) (hK : X.K = K) (hc : X.calm = true) (h : PGs X es t)
    (hn : (assignEach es X.env).length = n := by rfl) (hst : (assignEach es X.env).findIdx? (·.1) = none := by rfl) : PG X (.Tuple es k pos) (gTup K n t) := hK ▸ pg_tup hc h hn hst
theorem call_tuple_ofK {X : Cx} {K : PySem.W.Frag} (hK : X.K = K) : CallR X (.type "tuple") (fun xs H Q => ∃ p ys, xs = [.ref p] ∧ ((SqL K H p ys ∧ ∀ l, H l = none → Q (.ref l) (upd H l (.tup ys))) ∨ (SqT K H p ys ∧ Q (.ref p) H))) := hK ▸ call_tuple_of
/-- a def with defaults that lets nothing out -/
theorem funD_ok {P : Program} {w : World} {K : PySem.W.Frag} {mg : Str → Option Value} {base : Heap} {x qual : Str} {params : Arguments} {body : List Stmt} {scope : Scope} {dvs : List V} {kws : List (Str × V)} {f : Addr} {fd : FuncData} {N ps : List Str} {k : Nat} {sp : Sp} (F : FunD K x qual params body scope dvs kws f fd) (S : FnScope N ps scope) (len : ∀ vs H Q E, sp vs H Q E → vs.length = ps.length)
    (hbody : ∀ (cdv : Value) (A : Around) (outer : List Env) (s : Shared) (H : Hp) (vs : List V) (Q : VK) (E : XK), Room k (A.deeper (envOfC qual scope s.heap.objs.size f cdv)) → sp vs H Q E →
      ∃ t, PSs (cxOf CX0 P w K mg base N qual scope f cdv A outer s H E).nox body t ∧ t { nx := fun _ H' => Q .non H', rt := Q } (start N vs) H) : FnOk P w K mg base CX0 (k + 1) f fd ps sp :=
  F.ok S len fun cdv A outer s H vs Q E hr h => by
    obtain ⟨t, p, q⟩ := hbody cdv A outer s H vs Q E hr h
    exact ⟨t, p.nox, q⟩
end
/-! ### sets of texts -/
section
open PySem PySem.Spec PyProof.Rows
def keyT (e : Int × Value) : Str := match e.2 with
  | .str k _ => k
  | _ => Str.empty
/-- a table with the texts l, each once -/
structure TsOk (w : World) (es : Array (Int × Value)) (t : SetTable) (l : List Str) : Prop where
  good : ∀ e ∈ es.toList, ∃ k u, e = (hashStr w k, Value.str k u)
  perm : (es.toList.map keyT).Perm l
  nd : l.Nodup
  few : es.size < scanBound
  fit : t.fits es.size = true
  ris : L2.Ris t.place.toList
  led : w.params.followText "set-order" = true ∨ t.led = true
def TSet (w : World) (h : Heap) (a : Addr) (l : List Str) : Prop := ∃ o es ep t, h.get? a = some o ∧ o.ExactSet ∧ o.data = .set es ep t ∧ TsOk w es t l
section
variable {P : Program} {w : World} {h h' : Heap} {a : Addr} {l : List Str} {es : Array (Int × Value)} {t : SetTable}
theorem TSet.at (R : TSet w h a l) (k : ∀ o, h.get? a = some o → h'.get? a = some o) : TSet w h' a l := by
  obtain ⟨o, es, ep, t, ho, r⟩ := R
  exact ⟨o, es, ep, t, k o ho, r⟩
theorem str_isS (k : Str) (u : Tok) : (PySem.strKind P w).is k (.str k u) = true := by
  show Value.isStrOf k (.str k u) = true
  simp [Value.isStrOf]
theorem TsOk.elems (T : TsOk w es t l) : ElemsOf (PySem.strKind P w) es.toList := fun e he => by
  obtain ⟨k, u, rfl⟩ := T.good e he
  exact ⟨⟨k, str_isS k u, rfl⟩, rfl⟩
theorem TsOk.size (T : TsOk w es t l) : es.size = l.length := by
  have := T.perm.length_eq
  rwa [List.length_map, Array.length_toList] at this
theorem TsOk.is (T : TsOk w es t l) {e : Int × Value} (he : e ∈ es.toList) (k : Str) : (PySem.strKind P w).is k e.2 = true ↔ keyT e = k := by
  obtain ⟨j, u, rfl⟩ := T.good e he
  constructor
  · intro q
    exact ((PySem.strKind P w).inj (.str j u) k j q (str_isS j u)).symm
  · rintro rfl
    exact str_isS j u
theorem TsOk.mem (T : TsOk w es t l) (k : Str) : k ∈ l ↔ ∃ e ∈ es.toList, (PySem.strKind P w).is k e.2 = true := by
  rw [← T.perm.mem_iff, List.mem_map]
  exact ⟨fun ⟨e, he, q⟩ => ⟨e, he, (T.is he k).2 q⟩, fun ⟨e, he, q⟩ => ⟨e, he, (T.is he k).1 q⟩⟩
theorem TSet.setOf (R : TSet w h a l) : h.SetOf (PySem.strKind P w) a (fun k => decide (k ∈ l)) l.length := by
  obtain ⟨o, es, ep, t, ho, hx, hd, T⟩ := R
  exact ⟨o, es, ep, t, ho, hx, hd, T.elems, fun k => by rw [decide_eq_true_eq]; exact T.mem k, T.few, T.fit, T.size⟩
theorem TsOk.relay (T : TsOk w es t l) : TsOk w (relayAll t es (SetTable.grown es.size)).1 (relayAll t es (SetTable.grown es.size)).2.1 l := by
  have pm := relayAll_perm t es (SetTable.grown es.size)
  have hs : (relayAll t es (SetTable.grown es.size)).1.size = es.size := by rw [← Array.length_toList, pm.length_eq, Array.length_toList]
  exact ⟨fun e he => T.good e (pm.mem_iff.mp he), (pm.map keyT).trans T.perm, T.nd, by rw [hs]; exact T.few, relayAll_fits t es _, L2.relayAll_ris t es _, T.led.imp id fun z => by rw [L2.relayAll_led]; exact z⟩
theorem TsOk.off (T : TsOk w es t l) : TsOk w es { t with plain := false } l := ⟨T.good, T.perm, T.nd, T.few, SetTable.fits_plain_off T.fit, T.ris, T.led⟩
theorem TsOk.lay (T : TsOk w es t l) {k : Str} (u : Tok) (hk : k ∉ l) (room : l.length + 1 < scanBound) : TsOk w (layNew t es (hashStr w k) (.str k u)).1 (layNew t es (hashStr w k) (.str k u)).2.1 (k :: l) := by
  have pm := layNew_perm t es (hashStr w k) (.str k u)
  rw [Array.toList_push] at pm
  have pc := pm.trans (List.perm_append_singleton _ _)
  have pk : _ = _ := (pc.map keyT).length_eq
  have hs : (layNew t es (hashStr w k) (.str k u)).1.size = l.length + 1 := by
    rw [← Array.length_toList, pc.length_eq, List.length_cons, Array.length_toList, T.size]
  refine ⟨fun e he => ?_, (pc.map keyT).trans (T.perm.cons _), List.nodup_cons.mpr ⟨hk, T.nd⟩, by rw [hs]; exact room, layNew_fits t es _ _, L2.layNew_ris t es _ _ T.ris, T.led.imp id fun z => by rw [L2.layNew_led]; exact z⟩
  rcases List.mem_cons.mp (pc.mem_iff.mp he) with z | z
  · exact ⟨k, u, z⟩
  · exact T.good e z
theorem TSet.new (w : World) (h : Heap) : TSet w (h.push { cls := .type "set", dict := none, data := .set #[] 0 (.fresh 0 0 (!w.params.followText "set-order")) }) h.objs.size [] := by
  refine ⟨_, #[], 0, _, Heap.get?_push_size _ rfl, ⟨rfl, rfl, rfl⟩, rfl, (fun e he => by simp at he), by simp, List.nodup_nil, by decide, by rfl, List.Pairwise.nil, ?_⟩
  show _ ∨ (!w.params.followText "set-order") = true
  cases w.params.followText "set-order" <;> simp
end
/-- with k -/
def addT (k : Str) (l : List Str) : List Str := if k ∈ l then l else k :: l
theorem addT_mem {k j : Str} {l : List Str} : j ∈ addT k l ↔ j = k ∨ j ∈ l := by
  unfold addT
  split
  · rename_i h
    exact ⟨.inr, fun z => z.elim (fun e => e ▸ h) id⟩
  · exact List.mem_cons
theorem addT_nd {k : Str} {l : List Str} (h : l.Nodup) : (addT k l).Nodup := by
  unfold addT
  split
  · exact h
  · rename_i q
    exact List.nodup_cons.mpr ⟨q, h⟩
theorem addT_len {k : Str} {l : List Str} : (addT k l).length ≤ l.length + 1 := by
  unfold addT
  split <;> simp
section
variable {P : Program} {w : World} {A : Around} {E : Value → Shared → Prop} {s : Shared} {a : Addr} {l : List Str}
theorem ts_tail {g : Bool → Sem Unit} (hg : ∀ (b : Bool) (z : Shared) (q : Unit → Shared → Prop), q () z → wpAny (model P w) A (g b) q E z) {o : Obj} {es es1 : Array (Int × Value)} {ep : Nat} {t t2 : SetTable} (ho : s.heap.get? a = some o) (hex : o.ExactSet) (hd : o.data = .set es ep t)
    (T : TsOk w es1 t2 l) {wd : Bool} {R : Option Bool → Shared → Prop} (hR : ∀ h', Heap.SameBut a s.heap h' → TSet w h' a l → R (some true) { s with heap := h' }) :
    wpAny (model P w) A (do
        storeSet a es1 t2
        if (!wd && t2.tooFull) = true then do
            g (relayAll t2 es1 (SetTable.grown es1.size)).2.2
            storeSet a (relayAll t2 es1 (SetTable.grown es1.size)).1 (relayAll t2 es1 (SetTable.grown es1.size)).2.1
            pure (some true)
          else pure (some true)) R E s := by
  have sb := Heap.SameBut.update s.heap a (Obj.putSet es1 t2)
  have ho1 := L2.store_at (es' := es1) (t' := t2) ho hd
  refine wpAny_bind (wpAny_storeSet_of ho hd ?_ (fits_of_scanBound T.few))
  split
  · have T2 := T.relay
    generalize relayAll t2 es1 (SetTable.grown es1.size) = Z at T2 ⊢
    obtain ⟨es2, t3, gv⟩ := Z
    dsimp only at T2 ⊢
    refine wpAny_bind (hg _ _ _ (wpAny_bind (wpAny_storeSet_of ho1 rfl ?_ (fits_of_scanBound T2.few))))
    exact wpAny_pure (hR _ (sb.trans (Heap.SameBut.update _ a _)) ⟨_, es2, _, t3, L2.store_at (es' := es2) (t' := t3) ho1 rfl, hex, rfl, T2⟩)
  · exact wpAny_pure (hR _ sb ⟨_, es1, _, t2, ho1, hex, rfl, T⟩)
theorem ts_addH {k : Str} {u : Tok} {Q : Bool → Shared → Prop} (R : TSet w s.heap a l) (room : l.length + 1 < scanBound) (hQ : ∀ h' b, Heap.SameBut a s.heap h' → TSet w h' a (addT k l) → Q b { s with heap := h' }) :
    wpAny (model P w) A (setAddHashed a (.str k u) ((PySem.strKind P w).hash k)) Q E s := by
  obtain ⟨o, es, ep, t, ho, hex, hd, T⟩ := R
  have hel : ElemsOf (PySem.strKind P w) es.toList := T.elems
  have hgw : ∀ (b : Bool) (z : Shared) (q : Unit → Shared → Prop), q () z → wpAny (model P w) A (match b with | true => rule "set.scan.the-table-gave-way" | false => pure ()) q E z := fun b z q hq => by
    cases b
    · exact wpAny_pure hq
    · exact wpAny_rule hq
  unfold setAddHashed setAddHashedIn
  refine wpAny_holding (wpAny_bind (wpAny_setState_of ho hd T.fit ?_))
  dsimp only
  rw [byScan_of (show (Value.str k u).scannable = true from rfl) T.few hel]
  simp only [↓reduceIte]
  unfold setAddByScan
  refine wpAny_bind (wpAny_bind (wpAny_rule (wpAny_bind (wpAny_setScan_of (str_isS k u) ho hd T.fit hel ?_))))
  cases hfi : List.findIdx? (fun e => (PySem.strKind P w).is k e.2) es.toList with
  | some j =>
    dsimp only
    obtain ⟨hj, pj, _⟩ := List.findIdx?_eq_some_iff_getElem.mp hfi
    have hk : k ∈ l := (T.mem (P := P) k).2 ⟨_, List.getElem_mem hj, pj⟩
    refine wpAny_pure (wpAny_pure (hQ s.heap _ (Heap.SameBut.refl a s.heap) ?_))
    rw [show addT k l = l from if_pos hk]
    exact ⟨o, es, ep, t, ho, hex, hd, T⟩
  | none =>
    dsimp only
    have hk : k ∉ l := fun z => by
      obtain ⟨e, he, q⟩ := (T.mem (P := P) k).1 z
      have c := List.findIdx?_eq_none_iff.mp hfi e he
      rw [q] at c; cases c
    rw [show addT k l = k :: l from if_neg hk] at hQ
    have T1 : TsOk w (layNew t es ((PySem.strKind P w).hash k) (.str k u)).1 (layNew t es ((PySem.strKind P w).hash k) (.str k u)).2.1 (k :: l) := T.lay u hk room
    generalize layNew t es ((PySem.strKind P w).hash k) (.str k u) = Z at T1 ⊢
    obtain ⟨es1, t1, wd, gv⟩ := Z
    dsimp only at T1 ⊢
    refine wpAny_bind (hgw _ _ _ ?_)
    split
    · refine wpAny_bind ?_
      rw [hashByValue_scannable 8 (x := Value.str k u) rfl]
      refine wpAny_pure (ts_tail (l := k :: l) ?_ ho hex hd ?_ fun h' sb r => ?_)
      · exact fun b z q hq => hgw b z q hq
      · split
        · exact T1
        · exact T1.off
      · dsimp only
        exact wpAny_pure (hQ h' _ sb r)
    · refine wpAny_bind (wpAny_pure ?_)
      simp only [↓reduceIte]
      refine ts_tail ?_ ho hex hd T1 fun h' sb r => ?_
      · exact fun b z q hq => hgw b z q hq
      · dsimp only
        exact wpAny_pure (hQ h' _ sb r)
end
end
/-! ### sets of texts, tracked: add, comprehensions, sorted -/
section
open PySem PySem.Spec PyProof.Rows
def TSO (w : World) (a : Addr) (l : List Str) : HO := .ext fun h => TSet w h a l
theorem tso_new {w : World} {P : Program} {H : Hp} {h : Heap} {a : Addr} {l : List Str} (R : TSet w h a l) : ObjOk P w H h a (TSO w a l) := by
  have ⟨o, _, _, _, ho, _⟩ := R
  exact ⟨R, ⟨o, ho⟩, fun _ _ q k => q.at k⟩
section
variable {X : Cx}
theorem tso_get {pins : List (Addr × Obj)} {σ : L2.St} {H : Hp} {s : Shared} {a : Addr} {l : List Str} (I : Inv X pins σ H s) (ha : H a = some (TSO X.w a l)) : TSet X.w s.heap a l := (I.hok a _ ha).1
theorem ts_add {pins : List (Addr × Obj)} {σ : L2.St} {H : Hp} {s : Shared} {E : Value → Shared → Prop} {D : Addr} {l : List Str} {k : Str} {u : Tok} {Q : Value → Shared → Prop} (I : Inv X pins σ H s) (hD : H D = some (TSO X.w D l)) (room : l.length + 1 < scanBound)
    (h : ∀ s', Inv X pins σ (upd H D (TSO X.w D (addT k l))) s' → Q .none s') : wpAny (model X.prog X.w) X.A (call (.builtin "set.add") [.ref D, .str k u]) Q E s := by
  have R := tso_get I hD
  have hS : s.heap.SetOf (PySem.strKind X.prog X.w) D (fun k => decide (k ∈ l)) l.length := R.setOf
  refine wpAny_call_entry F.slot_set_add hS.typeIs F.entry_set_add ?_ (F.args_set_add_2 _ _)
  unfold Builtin.«set.add» Builtin.Frozenset.oneOther
  simp only [List.isEmpty_nil, bind_assoc]
  unfold Builtin.Frozenset.addrOf setAdd
  refine wpAny_bind (wpAny_pure ?_)
  try dsimp only
  refine wpAny_bind (wpAny_pure ?_)
  try dsimp only
  refine wpAny_bind (wpAny_holding (wpAny_bind ((PySem.strKind X.prog X.w).pyHash (str_isS k u) (ts_addH (s := { s with toks := s.toks + 1 }) R room fun h' b sb new => ?_))))
  have he : ∃ v, h'.get? D = some v := let ⟨o, _, _, _, ho, _⟩ := new; ⟨o, ho⟩
  exact wpAny_pure ⟨_, rfl, h _ (I.write (e := D) (t' := s.toks + 1) (by rw [hD]; trivial) (.inl rfl) (fun b v hb hu => (sb.2 b hb).trans hu) he (tso_new new))⟩
/-- {elt for target in iter if ..}, elt a text: D the new set -/
def tScT (w : World) (wi : TI) (g : TG) (tt : TT) (te : TE) (vs : List Nat) : TE := fun σ H Q => wi σ H fun J H1 => ∀ D, H1 D = none → ∃ W : Nat → Nat → Hp → Prop, (∃ m, W 0 m (upd H1 D (TSO w D []))) ∧ ∀ i m H, W i m H →
  (J.stop i H ∧ Q (.ref D) H) ∨ (J.go i H ∧ ∃ Nx : Hp → Prop, (∀ H', Nx H' → ∃ m', m' < m ∧ W (i + 1) m' H') ∧ ∀ x H', J.yld i H x H' → g x (wipe σ vs) H' fun σ2 H2 => wipe σ2 vs = wipe σ vs ∧ tt σ2 H2 fun b H3 =>
    if b = true then te σ2 H3 fun y H4 => ∃ (c : Str) (l : List Str), y = .str c ∧ H4 D = some (TSO w D l) ∧ l.length + 1 < scanBound ∧ Nx (upd H4 D (TSO w D (addT c l))) else Nx H3)
theorem pe_scT {elt tg iter : Expr} {ifs : List Expr} {scope : Scope} {own : List (Str × Nat)} {pos : Pos} {wi : TI} {g : TG} {tt : TT} {te : TE} (hc : X.calm = true) (hN : X.N.Nodup) (hi : PI X tg iter wi) (ok : BlkOk X.N X.env.scope scope own)
    (hg : ∀ (s : Shared) (H : Hp) (C : Addr) (cl : List (Str × Addr)) (fp : List Addr), PG (X.blk s H scope (compEnvC scope cl C X.env) fp) tg g) (ht : ∀ (s : Shared) (H : Hp) (C : Addr) (cl : List (Str × Addr)) (fp : List Addr), PTs (X.blk s H scope (compEnvC scope cl C X.env) fp) ifs tt)
    (he : ∀ (s : Shared) (H : Hp) (C : Addr) (cl : List (Str × Addr)) (fp : List Addr), PE (X.blk s H scope (compEnvC scope cl C X.env) fp) elt te) (hs : ∀ x, foldedSetIterable iter X.env x = pure x := by intro _; rfl) :
    PE X (.SetComp elt [⟨tg, iter, ifs, 0⟩] scope pos) (tScT X.w wi g tt te (own.map (·.2))) := by
  refine ⟨fun pins s σ H Q I h => ?_⟩
  rw [PpSet.eval_SetComp]
  have fr : ∀ y ∈ scope.names, y.2 = .free → ∃ c, X.env.cells.lookup y.1 = some c := fun y hy e => (ok.free y hy e).elim (fun k => I.ok.has _ (.inl k)) fun k => I.ok.has _ (.inr k)
  refine wpAny_comprehension_free (use := none) rfl hs (closure_ok fr) ok.kind (fun y hy e => by rw [ok.uniq y hy, e]) (thn (hi.run pins s σ H _ I h) fun xv s1 hx => thn hx fun itv s2 h2 => ?_)
  obtain ⟨it, fp, tn, J, H2, rfl, I2, T, st2, f2, q⟩ := h2
  refine PpSet.newSet_ok (newEnv_comp ?_)
  generalize hD : s2.heap.objs.size = D
  obtain ⟨W, ⟨m0, w0⟩, turn⟩ := q D (I2.hok.fresh (Nat.le_of_eq hD))
  generalize hs3 : ({ s2 with heap := s2.heap.push { cls := .type "set", dict := none, data := .set #[] 0 (.fresh 0 0 (!X.w.params.followText "set-order")) } } : Shared) = s3
  have e3 : s3.heap = s2.heap.push { cls := .type "set", dict := none, data := .set #[] 0 (.fresh 0 0 (!X.w.params.followText "set-order")) } := by rw [← hs3]
  have I3 : Inv X pins σ (upd H2 D (TSO X.w D [])) s3 := by
    rw [← hs3]
    exact I2.laid (t' := s2.toks) (fun b o e => Heap.get?_push_of_some _ e) (Nat.le_of_eq hD) (hD ▸ tso_new (TSet.new X.w s2.heap))
  have f3 : ∀ b ∈ fp, FpOk X pins (upd H2 D (TSO X.w D [])) b ∧ b < s3.heap.objs.size := fun b hb => by
    obtain ⟨o, e, _⟩ := T.obj _ _ st2 b hb
    have lt := Heap.lt_size e
    refine ⟨⟨?_, (f2 b hb).2⟩, by rw [e3, Heap.size_push]; exact Nat.lt_succ_of_lt lt⟩
    rw [upd_ne (by rw [← hD]; exact Nat.ne_of_lt lt)]
    exact (f2 b hb).1
  have I4 := block_start I3 ok hN f3
  have pg := hg s3 (upd H2 D (TSO X.w D [])) s3.heap.objs.size (cellsFrom (s3.heap.objs.size + 1) scope.names (cloFrom X.env.cells scope.names [])) fp
  have pt := ht s3 (upd H2 D (TSO X.w D [])) s3.heap.objs.size (cellsFrom (s3.heap.objs.size + 1) scope.names (cloFrom X.env.cells scope.names [])) fp
  have pe := he s3 (upd H2 D (TSO X.w D [])) s3.heap.objs.size (cellsFrom (s3.heap.objs.size + 1) scope.names (cloFrom X.env.cells scope.names [])) fp
  have fin0 : ∀ s' m H', Inv X pins σ H' s' → Q (.ref D) H' → s'.heap.Ns s3.heap.objs.size m → FpOk X pins H' s3.heap.objs.size → compPost (model X.prog X.w) X.A X.xe none (EP X pins σ Q) (.ref D) s3.heap.objs.size (.ok .next) s' := fun s' m H' I' q hn f => by
    obtain ⟨f0, f1, f2, f3, f4, f5⟩ := f
    exact ⟨m, hn, fun h'' sb => ⟨.ref D, H', I'.turned (t' := s'.toks) (fun b o hb e => (sb.2 b hb).trans e) f0 f1 f3 f4 f5, rfl, q⟩⟩
  show codeAny _ _ (.compStart (.SetComp elt [⟨tg, iter, ifs, 0⟩] scope pos) 0 (.ref it) (.ref D) (compEnvC scope (cellsFrom (s3.heap.objs.size + 1) scope.names (cloFrom X.env.cells scope.names [])) s3.heap.objs.size X.env)) (compPost (model X.prog X.w) X.A X.xe none (EP X pins σ Q) (.ref D) s3.heap.objs.size) { s3 with heap := pushCells (s3.heap.push { cls := .type "dict", data := .dict #[] }) scope.names }
  have nfp : ∀ b ∈ fp, (upd H2 D (TSO X.w D [])) b = none := fun b hb => (f3 b hb).1.1
  have st3 : tn 0 s3.heap := T.keep _ _ _ st2 fun b _ o e => by rw [e3]; exact Heap.get?_push_of_some _ e
  generalize hce : compEnvC scope (cellsFrom (s3.heap.objs.size + 1) scope.names (cloFrom X.env.cells scope.names [])) s3.heap.objs.size X.env = ce at I4 pg pt pe ⊢
  have cL : ce.locals = s3.heap.objs.size := by subst hce; rfl
  generalize hH3 : upd H2 D (TSO X.w D []) = H3 at I3 I4 pg pt pe w0 nfp f3
  generalize hs4 : ({ s3 with heap := pushCells (s3.heap.push { cls := .type "dict", data := .dict #[] }) scope.names } : Shared) = s4 at I4 ⊢
  have st4 : tn 0 s4.heap := T.keep _ _ _ st3 fun b _ o e => by rw [← hs4]; exact pushCells_keeps _ _ _ _ (Heap.get?_push_of_some _ e)
  have stat : ∀ {σ' : L2.St} {H' : Hp} {s' : Shared}, Inv (X.blk s3 H3 scope ce fp) [] σ' H' s' → (∀ b ∈ fp, H' b = none) → ∀ b ∈ fp, FpOk (X.blk s3 H3 scope ce fp) [] H' b := fun {σ' H' s'} J hn b hb =>
    ⟨hn b hb, (J.ok.exf b hb).1, J.ok.exfs b hb, .inl hb, fun x c e => (J.ok.exf b hb).2 x c e, fun p hp => absurd (show p ∈ ([] : List (Addr × Obj)) ++ [] from hp) (by simp)⟩
  have loop : codeAny (model X.prog X.w) X.A (.compLoop (.SetComp elt [⟨tg, iter, ifs, 0⟩] scope pos) 0 (.ref it) (.ref D) ce) (compPost (model X.prog X.w) X.A X.xe none (EP X pins σ Q) (.ref D) s3.heap.objs.size) s4 := by
    refine PpSet.compLoopS_any (fun n s' => ∃ i H', Inv (X.blk s3 H3 scope ce fp) [] (wipe σ (own.map (·.2))) H' s' ∧ tn i s'.heap ∧ (∀ b ∈ fp, H' b = none) ∧ W i n H') ?_ m0 ⟨0, H3, I4, st4, nfp, w0⟩
    rintro n s5 ⟨i, H5, I5, st5, n5, w5⟩
    rcases turn i n H5 w5 with ⟨stop, qq⟩ | ⟨go, Nx, hNx, step⟩
    · refine thnF (T.done (X.blk s3 H3 scope ce fp) rfl rfl rfl hc i [] s5 _ H5 (fun _ _ => False) I5 (stat I5 n5) st5 stop) fun r s6 ⟨hr, I6⟩ => ?_
      subst hr
      have I7 : Inv X pins σ H5 s6 := I3.call' (ch := fp) I6.os I6.base I6.hok I6.bare fun b hb => let ⟨_, g1, _, g3, g4, g5⟩ := (f3 b hb).1; ⟨g3, g1, g4, g5⟩
      have nC : H5 ce.locals = none := I6.free
      obtain ⟨m, hn, _⟩ := I6.loc
      have hn : s6.heap.Ns ce.locals m := hn
      rw [cL] at hn nC
      exact fin0 s6 m H5 I7 qq hn (I3.fpOk (Nat.le_refl _) nC)
    · refine thnF (T.item (X.blk s3 H3 scope ce fp) rfl rfl rfl hc i [] s5 _ H5 (fun _ _ => False) I5 (stat I5 n5) st5 go) fun r s6 ⟨u, hr, h6⟩ => ?_
      subst hr
      refine thnF h6 fun _ s7 ⟨x, H7, I7, r7, y7, st7, n7⟩ => ?_
      refine thnF (pg.run _ s7 _ H7 x u _ (I7.pinned (stat I7 n7) (T.obj _ _ st7)) r7 (step x H7 y7)) fun _ s8 ⟨σ8, H8, I8, hw8, q8⟩ => ?_
      refine thnF (pt.run _ s8 σ8 H8 _ I8 q8) fun b s9 ⟨H9, I9, q9⟩ => ?_
      have back : ∀ {s' : Shared} {H' : Hp}, Inv (X.blk s3 H3 scope ce fp) ([] ++ pinsAt fp s7.heap) σ8 H' s' → Nx H' → ∃ m, m < n ∧ ∃ i H', Inv (X.blk s3 H3 scope ce fp) [] (wipe σ (own.map (·.2))) H' s' ∧ tn i s'.heap ∧ (∀ b ∈ fp, H' b = none) ∧ W i m H' := fun {s' H'} J nx => by
        obtain ⟨m', hm, w'⟩ := hNx H' nx
        have pin : ∀ b ∈ fp, ∀ o, s7.heap.get? b = some o → s'.heap.get? b = some o ∧ H' b = none := fun b hb o e =>
          let z := J.pin (b, o) (List.mem_append_right _ (List.mem_append_right _ (mem_pinsAt hb e))); ⟨z.1, z.2.1⟩
        refine ⟨m', hm, i + 1, H', (J.unpinned (pins := [])).weak (by rw [← hw8, wipe_length]) (fun j v e => ?_), T.keep _ _ _ st7 fun b hb o e => (pin b hb o e).1, fun b hb => ?_, w'⟩
        · rw [← hw8] at e
          exact (wipe_some e).1
        · obtain ⟨o, e, _⟩ := T.obj _ _ st7 b hb
          exact (pin b hb o e).2
      cases b with
      | false =>
        simp only [Bool.false_eq_true, if_false] at q9 ⊢
        exact back I9 q9
      | true =>
        simp only [if_true] at q9 ⊢
        refine thnF (pe.run _ s9 σ8 H9 _ I9 q9) fun z s10 ⟨yv, H10, I10, r10, c, l, ey, hD10, hz10, nx⟩ => ?_
        subst ey
        obtain ⟨tk, rfl⟩ := r10
        exact ts_add (X := X.blk s3 H3 scope ce fp) I10 hD10 hz10 fun s11 I11 => back I11 nx
  exact PpSet.codeAny_compStart_set loop (T.self X.A 0 _ _ _ st4 loop)
end
/-- over a list that the block leaves as it is -/
theorem sc_listT {w : World} {K : PySem.W.Frag} {a : Addr} {xs : List V} {g : TG} {tt : TT} {te : TE} {vs : List Nat} {σ : L2.St} {H1 : Hp} {D : Addr} {Qd : Hp → Prop} (Pv : Nat → Hp → Prop) (h0 : Pv 0 (upd H1 D (TSO w D []))) (hl : ∀ i H, i ≤ xs.length → Pv i H → SqL K H a xs)
    (hs : ∀ i x H, xs[i]? = some x → Pv i H → g x (wipe σ vs) H fun σ2 H2 => wipe σ2 vs = wipe σ vs ∧ tt σ2 H2 fun b H3 =>
      if b = true then te σ2 H3 fun y H4 => ∃ (c : Str) (l : List Str), y = .str c ∧ H4 D = some (TSO w D l) ∧ l.length + 1 < scanBound ∧ Pv (i + 1) (upd H4 D (TSO w D (addT c l))) else Pv (i + 1) H3) (hd : ∀ H, Pv xs.length H → Qd H) :
    ∃ W : Nat → Nat → Hp → Prop, (∃ m, W 0 m (upd H1 D (TSO w D []))) ∧ ∀ i m H, W i m H →
      ((Itl K a).stop i H ∧ Qd H) ∨ ((Itl K a).go i H ∧ ∃ Nx : Hp → Prop, (∀ H', Nx H' → ∃ m', m' < m ∧ W (i + 1) m' H') ∧ ∀ x H', (Itl K a).yld i H x H' → g x (wipe σ vs) H' fun σ2 H2 => wipe σ2 vs = wipe σ vs ∧ tt σ2 H2 fun b H3 =>
        if b = true then te σ2 H3 fun y H4 => ∃ (c : Str) (l : List Str), y = .str c ∧ H4 D = some (TSO w D l) ∧ l.length + 1 < scanBound ∧ Nx (upd H4 D (TSO w D (addT c l))) else Nx H3) := by
  refine ⟨fun i m H => m = xs.length - i ∧ i ≤ xs.length ∧ Pv i H, ⟨xs.length, (Nat.sub_zero _).symm, Nat.zero_le _, h0⟩, ?_⟩
  rintro i m H ⟨rfl, hi, p⟩
  have q := hl i H hi p
  rcases Nat.lt_or_ge i xs.length with lt | ge
  · refine .inr ⟨⟨xs, xs[i], q, by simp [lt]⟩, Pv (i + 1), fun H' p' => ⟨xs.length - (i + 1), by omega, rfl, lt, p'⟩, fun x H' y => ?_⟩
    obtain ⟨e, y⟩ := y
    subst e
    exact hs i x _ (y xs q) p
  · obtain rfl : i = xs.length := Nat.le_antisymm hi ge
    exact .inl ⟨⟨xs, q, Nat.le_refl _⟩, hd H p⟩
end
/-! ### sorted texts -/
section
open PySem PySem.Spec PyProof.Rows
/-- x stands ahead of y, or they are the same -/
def leT (x y : Str) : Prop := ¬ y.cps.toList < x.cps.toList
instance (x y : Str) : Decidable (leT x y) := inferInstanceAs (Decidable (¬ _))
theorem str_ext {x y : Str} (h : x.cps.toList = y.cps.toList) : x = y := by
  cases x
  cases y
  exact congrArg Str.mk (Array.toList_inj.mp h)
theorem nlt_irrefl : ∀ l : List Nat, ¬ l < l := List.lt_irrefl
theorem leT_refl (x : Str) : leT x x := List.lt_irrefl _
theorem leT_anti {x y : Str} (h : leT x y) (k : leT y x) : x = y := str_ext (List.le_antisymm (List.not_lt.mp h) (List.not_lt.mp k))
theorem leT_trans {x y z : Str} (h : leT x y) (k : leT y z) : leT x z := List.not_lt.mpr (List.le_trans (List.not_lt.mp h) (List.not_lt.mp k))
theorem leT_total (x y : Str) : leT x y ∨ leT y x := by
  rcases List.le_total x.cps.toList y.cps.toList with h | h
  · exact .inl (List.not_lt.mpr h)
  · exact .inr (List.not_lt.mpr h)
theorem rising_pw : ∀ (l : List Str) (p : Str), risingS p l = true → (p :: l).Pairwise leT
  | [], p, _ => by simp
  | x :: r, p, h => by
    have h1 : (leT p x) ∧ risingS x r = true := by
      unfold risingS at h
      rw [Bool.and_eq_true, PyProof.Rows.ltCps_eq, Bool.not_eq_true', decide_eq_false_iff_not] at h
      exact h
    have ih := rising_pw r x h1.2
    refine List.pairwise_cons.mpr ⟨fun y hy => ?_, ih⟩
    rcases List.mem_cons.mp hy with rfl | hy
    · exact h1.1
    · exact leT_trans h1.1 ((List.pairwise_cons.mp ih).1 y hy)
theorem sorted_pw {l : List Str} (h : sortedS l = true) : l.Pairwise leT := by
  cases l with
  | nil => exact .nil
  | cons x r => exact rising_pw r x h
theorem pw_unique : ∀ {l m : List Str}, l.Perm m → l.Pairwise leT → m.Pairwise leT → l = m
  | [], m, p, _, _ => (List.perm_nil.mp p.symm).symm
  | x :: l, m, p, hl, hm => by
    cases m with
    | nil => exact absurd (List.perm_nil.mp p) (by simp)
    | cons y m =>
      have e : x = y := by
        have h1 : x ∈ y :: m := p.mem_iff.mp List.mem_cons_self
        have h2 : y ∈ x :: l := p.mem_iff.mpr List.mem_cons_self
        rcases List.mem_cons.mp h1 with e | h1
        · exact e
        rcases List.mem_cons.mp h2 with e | h2
        · exact e.symm
        exact leT_anti ((List.pairwise_cons.mp hl).1 y h2) ((List.pairwise_cons.mp hm).1 x h1)
      subst e
      rw [pw_unique (List.perm_cons _ |>.mp p) (List.pairwise_cons.mp hl).2 (List.pairwise_cons.mp hm).2]
/-- sorted -/
def sortT (l : List Str) : List Str := l.mergeSort fun x y => decide (leT x y)
theorem sortT_perm (l : List Str) : (sortT l).Perm l := List.mergeSort_perm l _
theorem sortT_pw (l : List Str) : (sortT l).Pairwise leT := by
  have h := List.pairwise_mergeSort (le := fun x y => decide (leT x y)) (fun a b c h k => by
    rw [decide_eq_true_eq] at h k ⊢
    exact leT_trans h k) (fun a b => by
    rw [Bool.or_eq_true, decide_eq_true_eq, decide_eq_true_eq]
    exact leT_total a b) l
  exact h.imp fun h => of_decide_eq_true h
theorem sortT_of {l ys : List Str} (p : ys.Perm l) (h : sortedS ys = true) : ys = sortT l := pw_unique (p.trans (sortT_perm l).symm) (sorted_pw h) (sortT_pw l)
theorem sortT_congr {l m : List Str} (p : l.Perm m) : sortT l = sortT m := pw_unique ((sortT_perm l).trans (p.trans (sortT_perm m).symm)) (sortT_pw l) (sortT_pw m)
theorem sortT_mem {l : List Str} {k : Str} : k ∈ sortT l ↔ k ∈ l := (sortT_perm l).mem_iff
theorem sortT_len {l : List Str} : (sortT l).length = l.length := (sortT_perm l).length_eq
theorem nd_perm {l m : List Str} (hl : l.Nodup) (hm : m.Nodup) (h : ∀ k, k ∈ l ↔ k ∈ m) : l.Perm m := by
  rw [List.perm_iff_count]
  intro k
  rw [hl.count, hm.count]
  simp [h k]
theorem strs_ofV : ∀ (l : List Value), (∀ v ∈ l, ∃ k u, v = Value.str k u) → ∃ ss, StrsAre l ss ∧ l.map (fun v => keyT (0, v)) = ss
  | [], _ => ⟨[], .nil, rfl⟩
  | v :: l, h => by
    obtain ⟨k, u, rfl⟩ := h v List.mem_cons_self
    obtain ⟨ss, h1, h2⟩ := strs_ofV l fun x hx => h x (List.mem_cons_of_mem _ hx)
    exact ⟨k :: ss, .cons k u h1, by rw [List.map_cons, h2]; rfl⟩
section
variable {P : Program} {w : World} {A : Around} {E : Value → Shared → Prop} {s : Shared} {a : Addr} {l : List Str}
theorem ts_sorted {Q : Value → Shared → Prop} (R : TSet w s.heap a l) (hh : A.handled = none)
    (hQ : ∀ s' p (out : Array Value) (c : Nat), (∀ b o, s.heap.get? b = some o → s'.heap.get? b = some o) → s'.gens = s.gens → s'.os = s.os → s.heap.objs.size ≤ p → s'.heap.get? p = some (seqObj "list" out c) → StrsAre out.toList (sortT l) → Q (.ref p) s') :
    wpAny (model P w) A (call (.builtin "sorted") [.ref a]) Q E s := by
  obtain ⟨o, es, ep, t, ho, hex, hd, T⟩ := R
  refine Calls.call_function_entry kind_sorted plain_sorted entry_sorted (args_sorted1 _) ?_
  unfold Builtin.«sorted»
  refine wpAny_bind (m := checkCount "sorted" 1 1 _) (wpAny_pure (wpAny_bind (L2.collect_set (A := A.in1) hh ⟨o, ho, hex.1, hd⟩ T.fit T.few T.ris T.led fun s1 vs k1 hz g1 o1 pm => ?_)))
  obtain ⟨ss, hS, es'⟩ := strs_ofV vs fun v hv => by
    obtain ⟨e, he, q⟩ := List.mem_map.mp (pm.mem_iff.mp hv)
    obtain ⟨k, u, rfl⟩ := T.good e he
    exact ⟨k, u, q.symm⟩
  have ps : ss.Perm l := by
    have q := pm.map fun v => keyT (0, v)
    rw [es', List.map_map] at q
    exact q.trans T.perm
  have hv : vs.length = l.length := by rw [pm.length_eq, List.length_map, Array.length_toList, T.size]
  have hL : vs.length ≤ sizeLine := by rw [hv, ← T.size]; exact fits_of_scanBound T.few
  refine wpAny_bind (wpAny_newList ?_ hL)
  have hoL : (s1.heap.push (seqObj "list" vs.toArray 0)).get? s1.heap.objs.size = some (seqObj "list" vs.toArray 0) := Heap.get?_push_size _ rfl
  refine wpAny_bind (wpAny_holding (wpAny_call_entry slot_list_sort ⟨_, hoL, rfl⟩ entry_list_sort (list_sort_treeKAny strKind_oneLt hoL hS.keysOf (fun v₁ v₂ rest e => keyKind_strs (by rw [← e]; exact hS)) hL fun st' hp hs => ⟨_, rfl, ?_⟩) (args_list_sort _)))
  obtain ⟨ys, h1, h2, h3⟩ := sorted_out_str hS hp hs
  obtain ⟨c, hc⟩ := sortedHeap_at (vs := vs) (out := (arrOf st').map (·.2)) hoL
  rw [sortT_of (h2.trans ps) h3] at h1
  refine wpAny_pure ⟨_, rfl, hQ _ s1.heap.objs.size _ c (fun b u e => ?_) g1 o1 hz hc h1⟩
  have q := k1 b u e
  have lt := Heap.lt_size q
  show (sortedHeap (s1.heap.push (seqObj "list" vs.toArray 0)) s1.heap.objs.size vs _).get? b = some u
  rw [sortedHeap_old (Nat.ne_of_lt lt) (by rw [size_push']; exact Nat.lt_succ_of_lt lt)]
  exact Heap.get?_push_of_some _ q
end
section
variable {X : Cx}
/-- sorted(found) -/
theorem cr_sortTS (hc : X.calm = true) : CallR X (.builtin "sorted") (fun vs H Q => ∃ (a : Addr) (l : List Str), vs = [V.ref a] ∧ H a = some (TSO X.w a l) ∧ ∀ p, H p = none → Q (.ref p) (upd H p (.lst ((sortT l).map V.str)))) := by
  intro pins s σ H vs us Q I r h
  obtain ⟨a, l, rfl, ha, q⟩ := h
  have R := tso_get I ha
  rw [Vals.ref1 r]
  have hl : l.length ≤ sizeLine := by
    obtain ⟨o, es, ep, t, ho, hex, hd, T⟩ := R
    rw [← T.size]; exact fits_of_scanBound T.few
  refine ts_sorted R (I.ok.hd hc) fun s' p out c k g o hp hg hi => ?_
  have hn : H p = none := I.hok.fresh hp
  have J : Inv X pins σ (upd H p (.lst ((sortT l).map V.str))) { s with heap := s'.heap, gens := s'.gens, drawn := s'.drawn, toks := s'.toks } :=
    I.call (ch := []) (Un.laid k hp hn) (I.hok.laid k hp ⟨by rw [List.length_map, sortT_len]; exact hl, out.toList, c, vals_of_strs hi, hg⟩) (by rw [g]; exact I.bare) (fun _ z => nomatch z)
  obtain ⟨h', g', d', t', os'⟩ := s'
  obtain ⟨h0, g0, d0, t0, os0⟩ := s
  cases (show os' = os0 from o)
  exact ⟨.ref p, _, J, rfl, q p hn⟩
/-- sorted(texts), any number -/
theorem cr_sortLS : CallR X (.builtin "sorted") (fun vs H Q => ∃ (a : Addr) (xs : List Str), vs = [V.ref a] ∧ SqL X.K H a (xs.map V.str) ∧ ∀ p, H p = none → Q (.ref p) (upd H p (.lst ((sortT xs).map V.str)))) := by
  intro pins s σ H vs us Q I r h
  obtain ⟨a, xs, rfl, hs, q⟩ := h
  obtain ⟨its, rv, hl, hlen⟩ := I.list hs
  rw [Vals.ref1 r]
  have l0 := rv.length
  rw [List.length_map] at l0 hlen
  refine PyProof.Rows.sorted_strsAny hl.isList rv.strs (by rw [← l0]; exact hlen) fun out ys h1 h2 h3 => ?_
  obtain ⟨ep, he'⟩ := PyProof.Rows.sortedAll_at s.heap its out
  rw [sortT_of h2 h3] at h1
  exact ⟨.ref _, upd H (s.heap.objs.size + 1) (.lst ((sortT xs).map V.str)), I.laid (t' := s.toks) (fun _ _ => PyProof.Rows.sortedAll_old) (Nat.le_succ _) ⟨by rw [List.length_map, sortT_len]; exact hlen, out.toList, ep, vals_of_strs h1, he'⟩, rfl, q _ (I.hok.fresh (Nat.le_succ _))⟩
end
end
/-! ### sorted(list of data), of any length -/
section
open PySem PySem.Spec PyProof.Rows
/-- sorted(xs), the items of xs read as alike data: one list, the merge sort by the data -/
def rSortD (K : PySem.W.Frag) : List V → Hp → VK → Prop := fun vs H Q => ∃ (a : Addr) (bs : List (V × PyData)), vs = [V.ref a] ∧ SqL K H a (bs.map (·.1)) ∧ (∀ b ∈ bs, Dp K H b.1 b.2) ∧
  PySem.W.AllAlike (bs.map (·.2)) ∧ PySem.W.Sortable (bs.map (·.2)) ∧ (∀ b ∈ bs, b.2.depth ≤ 60) ∧
  ∀ p, H p = none → Q (.ref p) (upd H p (.lst ((bs.mergeSort (PySem.W.dataLe false (·.2))).map (·.1))))
theorem each_vals : ∀ {bs : List (V × PyData)} {us : List Value}, Vals (bs.map (·.1)) us → PySem.W.EachIs (fun v (b : V × PyData) => RelV b.1 v) us bs
  | [], _, r => by cases r; exact .nil
  | b :: bs, _, r => by
    cases r with
    | cons r rr => exact .cons r (each_vals rr)
theorem vals_each : ∀ {bs : List (V × PyData)} {us : List Value}, PySem.W.EachIs (fun v (b : V × PyData) => RelV b.1 v) us bs → Vals (bs.map (·.1)) us
  | _, _, .nil => .nil
  | _, _, .cons r rr => .cons r (vals_each rr)
theorem each_imp {R S : Value → V × PyData → Prop} : ∀ {bs : List (V × PyData)} {us : List Value}, (∀ b ∈ bs, ∀ u, R u b → S u b) → PySem.W.EachIs R us bs → PySem.W.EachIs S us bs
  | _, _, _, .nil => .nil
  | _, _, h, .cons r rr => .cons (h _ List.mem_cons_self _ r) (each_imp (fun b hb => h b (List.mem_cons_of_mem _ hb)) rr)
variable {X : Cx}
theorem cr_sortD (hu : X.A.units + 64 < cLine) : CallR X (.builtin "sorted") (rSortD X.K) := by
  intro pins s σ H vs us Q I r h
  obtain ⟨a, bs, rfl, hs, hd, hal, hk, hb, q⟩ := h
  obtain ⟨its, rv, hl, hz⟩ := I.list hs
  rw [Vals.ref1 r]
  have e := each_vals rv
  refine PySem.W.sorted_data hl.isList e (each_imp (fun b hb u ru => Dp.reads I b.2 b.1 u (hd b hb) ru) e) hal hk (by rw [List.length_map] at hz; exact hz) (fun b m => ?_) fun out e1 e2 => ?_
  · have := hb b m
    show X.A.units + 2 + b.2.depth < cLine
    omega
  · obtain ⟨ep, he'⟩ := PyProof.Rows.sortedAll_at s.heap its out.toArray
    have rv2 := vals_each e2
    have hlen : ((bs.mergeSort (PySem.W.dataLe false (·.2))).map (·.1)).length ≤ sizeLine := by
      rw [List.length_map, List.length_mergeSort]
      rw [List.length_map] at hz
      exact hz
    exact ⟨.ref _, upd H (s.heap.objs.size + 1) (.lst ((bs.mergeSort (PySem.W.dataLe false (·.2))).map (·.1))), I.laid (t' := s.toks) (fun _ _ => PyProof.Rows.sortedAll_old) (Nat.le_succ _) ⟨hlen, out, ep, rv2, he'⟩, rfl, q _ (I.hok.fresh (Nat.le_succ _))⟩
end
/-! ### data that stand, lists side by side -/
section
open PySem PySem.Spec PyProof.Rows
theorem same_seqT {K : PySem.W.Frag} {H H' : Hp} {a : Addr} {xs : List V} (e : Same H H') (h : SqT K H a xs) : SqT K H' a xs := by
  rcases h with (h | ⟨o, h⟩) | h
  · exact .inl (.inl (e _ _ h))
  · exact .inl (.inr ⟨o, e _ _ h⟩)
  · exact .inr h
mutual
theorem dp_same {K : PySem.W.Frag} {H H' : Hp} (e : Same H H') : ∀ {d : PyData} {v : V}, Dp K H v d → Dp K H' v d
  | _, _, .non => .non
  | _, _, .bl b => .bl b
  | _, _, .int i => .int i
  | _, _, .str x => .str x
  | _, _, .lst h r => .lst (e.seq h) (dpa_same e r)
  | _, _, .tup h r => .tup (same_seqT e h) (dpa_same e r)
theorem dpa_same {K : PySem.W.Frag} {H H' : Hp} (e : Same H H') : ∀ {ds : List PyData} {vs : List V}, DpAll K H vs ds → DpAll K H' vs ds
  | _, _, .nil => .nil
  | _, _, .cons h r => .cons (dp_same e h) (dpa_same e r)
end
theorem dpa_app {K : PySem.W.Frag} {H : Hp} : ∀ {ds es : List PyData} {vs us : List V}, DpAll K H vs ds → DpAll K H us es → DpAll K H (vs ++ us) (ds ++ es)
  | _, _, _, _, .nil, r => r
  | _, _, _, _, .cons h q, r => .cons h (dpa_app q r)
theorem dpa_len {K : PySem.W.Frag} {H : Hp} : ∀ {ds : List PyData} {vs : List V}, DpAll K H vs ds → vs.length = ds.length
  | _, _, .nil => rfl
  | _, _, .cons _ q => congrArg Nat.succ (dpa_len q)
theorem dpa_zip {K : PySem.W.Frag} {H : Hp} : ∀ {ds : List PyData} {vs : List V}, DpAll K H vs ds → ∃ bs : List (V × PyData), vs = bs.map (·.1) ∧ ds = bs.map (·.2) ∧ ∀ b ∈ bs, Dp K H b.1 b.2
  | _, _, .nil => ⟨[], rfl, rfl, fun _ h => nomatch h⟩
  | _, _, .cons (v := v) (d := d) h q => by
    obtain ⟨bs, rfl, rfl, hb⟩ := dpa_zip q
    refine ⟨(v, d) :: bs, rfl, rfl, fun b m => ?_⟩
    rcases List.mem_cons.mp m with rfl | m
    · exact h
    · exact hb b m
theorem dpa_of {K : PySem.W.Frag} {H : Hp} : ∀ {bs : List (V × PyData)}, (∀ b ∈ bs, Dp K H b.1 b.2) → DpAll K H (bs.map (·.1)) (bs.map (·.2))
  | [], _ => .nil
  | b :: r, h => .cons (h b List.mem_cons_self) (dpa_of fun x m => h x (List.mem_cons_of_mem _ m))
/-- the sorted data -/
def sortD (ds : List PyData) : List PyData := ds.mergeSort (PySem.W.dataLe false id)
theorem sortD_of (bs : List (V × PyData)) : (bs.mergeSort (PySem.W.dataLe false (·.2))).map (·.2) = sortD (bs.map (·.2)) :=
  List.map_mergeSort fun _ _ _ _ => rfl
theorem dpa_mem {K : PySem.W.Frag} {H : Hp} : ∀ {bs : List (V × PyData)}, DpAll K H (bs.map (·.1)) (bs.map (·.2)) → ∀ b ∈ bs, Dp K H b.1 b.2
  | [], _, _, m => nomatch m
  | _ :: _, .cons h q, _, m => by
    rcases List.mem_cons.mp m with rfl | m
    · exact h
    · exact dpa_mem q _ m
/-- all tuples stand -/
def TupK (H H' : Hp) : Prop := ∀ b l, H b = some (.tup l) → H' b = some (.tup l)
theorem TupK.of_same {H H' : Hp} (e : Same H H') : TupK H H' := fun b l h => e _ _ h
theorem TupK.trans {H H1 H2 : Hp} (a : TupK H H1) (b : TupK H1 H2) : TupK H H2 := fun c l h => b c l (a c l h)
theorem TupK.set {H : Hp} {D : Addr} {xs : List V} {o : HO} (h : H D = some (.lst xs)) : TupK H (upd H D o) := fun b l e => upd_oth (fun z => by rw [z, h] at e; cases e) e
/-- sorted(xs), xs a list of alike data -/
theorem call_sortD {K : PySem.W.Frag} {H : Hp} {a : Addr} {vs : List V} {ds : List PyData} {Q : VK} (hs : SqL K H a vs) (hd : ∀ H', TupK H H' → DpAll K H' vs ds) (al : PySem.W.AllAlike ds) (so : PySem.W.Sortable ds) (hk : ∀ d ∈ ds, d.depth ≤ 60)
    (q : ∀ p xs, H p = none → (∀ H', TupK H H' → DpAll K H' xs (sortD ds)) → xs.length = vs.length → Q (.ref p) (upd H p (.lst xs))) : rSortD K [.ref a] H Q := by
  obtain ⟨bs, rfl, rfl, hb⟩ := dpa_zip (hd H fun _ _ h => h)
  refine ⟨a, bs, rfl, hs, hb, al, so, fun b m => hk _ (List.mem_map_of_mem m), fun p hp => q p _ hp (fun H' e => ?_) (by rw [List.length_map, List.length_map, List.length_mergeSort])⟩
  rw [← sortD_of]
  exact dpa_of fun b m => dpa_mem (hd H' e) b (List.mem_mergeSort.mp m)
inductive A2 {α β : Type} (R : α → β → Prop) : List α → List β → Prop
  | nil : A2 R [] []
  | cons {x : α} {y : β} {xs : List α} {ys : List β} : R x y → A2 R xs ys → A2 R (x :: xs) (y :: ys)
theorem A2.imp {α β : Type} {R S : α → β → Prop} (h : ∀ x y, R x y → S x y) : ∀ {xs : List α} {ys : List β}, A2 R xs ys → A2 S xs ys
  | _, _, .nil => .nil
  | _, _, .cons r q => .cons (h _ _ r) (q.imp h)
theorem A2.app {α β : Type} {R : α → β → Prop} : ∀ {xs us : List α} {ys vs : List β}, A2 R xs ys → A2 R us vs → A2 R (xs ++ us) (ys ++ vs)
  | _, _, _, _, .nil, r => r
  | _, _, _, _, .cons h q, r => .cons h (q.app r)
theorem A2.len {α β : Type} {R : α → β → Prop} : ∀ {xs : List α} {ys : List β}, A2 R xs ys → xs.length = ys.length
  | _, _, .nil => rfl
  | _, _, .cons _ q => congrArg Nat.succ q.len
theorem A2.at {α β : Type} {R : α → β → Prop} : ∀ {xs : List α} {ys : List β}, A2 R xs ys → ∀ {i : Nat} {x : α}, xs[i]? = some x → ∃ y, ys[i]? = some y ∧ R x y
  | _, _, .nil, i, x, h => by simp at h
  | _, _, .cons r _, 0, _, h => by cases h; exact ⟨_, rfl, r⟩
  | _, _, .cons _ q, i + 1, _, h => q.at (i := i) h
end
/-! ### k49: the plain law -/
section
/-- the cases as indices: state, records held outside, records held here -/
def casesIx (m : Nat) : List (Nat × Nat × Nat) := (List.range m).flatMap fun o => (0, o, 0) :: ((List.range m).filter fun h => h &&& o = 0).flatMap fun h => [(1, o, h), (2, o, h)]
def dueIx (m : Nat) : List (Nat × Nat × Nat) := (List.range m).map (fun o => (0, o, 0)) ++ (List.range m).flatMap fun o => ((List.range m).filter fun h => h &&& o = 0).flatMap fun h => [(1, o, h), (2, o, h)]
theorem perm_flat {α β : Type} (f : α → β) (g : α → List β) : ∀ l : List α, (l.flatMap fun x => f x :: g x).Perm (l.map f ++ l.flatMap g)
  | [] => .nil
  | x :: l => by
    rw [List.flatMap_cons, List.map_cons, List.flatMap_cons, List.cons_append, List.cons_append]
    refine .cons _ (((perm_flat f g l).append_left (g x)).trans ?_)
    rw [← List.append_assoc, ← List.append_assoc]
    exact List.perm_append_comm.append_right _
theorem perm_ix (m : Nat) : (casesIx m).Perm (dueIx m) := perm_flat _ _ _
open PySem PySem.W PyProof.Rows
abbrev Tk := List (Int ⊕ List Nat)
def tle (x y : Tk) : Bool := !(lexLt itemOrd y x)
theorem of_tle {x y : Tk} (h : tle x y = true) : (listOrd itemOrd).kle x y := by
  show lexLt itemOrd y x = false
  unfold tle at h
  cases e : lexLt itemOrd y x with
  | false => rfl
  | true => rw [e] at h; cases h
theorem tle_of {x y : Tk} (h : (listOrd itemOrd).kle x y) : tle x y = true := by
  have h : lexLt itemOrd y x = false := h
  unfold tle
  rw [h]; rfl
theorem tle_sort {xs ys : List Tk} (h : xs.Perm ys) : xs.mergeSort tle = ys.mergeSort tle := by
  have tr : ∀ a b c : Tk, tle a b = true → tle b c = true → tle a c = true := fun a b c h1 h2 => by
    exact tle_of (KeyOrd.kle_trans (O := listOrd itemOrd) (a := a) (b := b) (c := c) (of_tle h1) (of_tle h2))
  have to : ∀ a b : Tk, (tle a b || tle b a) = true := fun a b => by
    unfold tle
    cases e : lexLt itemOrd b a with
    | false => rfl
    | true =>
      have : lexLt itemOrd a b = false := KeyOrd.klt_asymm (O := listOrd itemOrd) (a := b) (b := a) e
      rw [this]; rfl
  refine List.Perm.eq_of_pairwise (le := fun a b => tle a b = true) (fun a b _ _ h1 h2 => ?_) (List.pairwise_mergeSort tr to xs) (List.pairwise_mergeSort tr to ys) (((List.mergeSort_perm _ _).trans h).trans (List.mergeSort_perm _ _).symm)
  exact KeyOrd.kle_antisymm (O := listOrd itemOrd) (a := a) (b := b) (of_tle h1) (of_tle h2)
theorem toks_sort {β : Type} (enc : β → PyData) (bs : List β) : (bs.mergeSort (dataLe false enc)).map (fun b => keyToks (enc b)) = (bs.map fun b => keyToks (enc b)).mergeSort tle :=
  List.map_mergeSort fun _ _ _ _ => rfl
theorem toks_eq {x y : PyData} (h : alike x y = true) (e : keyToks x = keyToks y) : PyData.eqv x y = true := by
  cases q : PyData.eqv x y with
  | true => rfl
  | false =>
    have := (toks_eqv x y h).2 q [] [.inl 1]
    rw [e, lex_pre] at this
    rw [lex_irrefl] at this
    cases this
theorem toks_eqAll : ∀ {xs ys : List PyData}, (∀ x ∈ xs, ∀ y ∈ ys, alike x y = true) → xs.map keyToks = ys.map keyToks → PyData.eqvAll xs ys = true
  | [], [], _, _ => by rw [PyData.eqvAll]
  | [], _ :: _, _, e => by cases e
  | _ :: _, [], _, e => by cases e
  | x :: xs, y :: ys, h, e => by
    rw [List.map_cons, List.map_cons, List.cons.injEq] at e
    rw [eqv_all_cons, toks_eq (h x List.mem_cons_self y List.mem_cons_self) e.1, toks_eqAll (fun a ha b hb => h a (List.mem_cons_of_mem _ ha) b (List.mem_cons_of_mem _ hb)) e.2]
    rfl
/-- two sorted lists of the same data are equal -/
theorem sorted_eqv {bs cs : List (V × PyData)} (h : (bs.map (·.2)).Perm (cs.map (·.2))) (al : AllAlike (bs.map (·.2))) :
    PyData.eqvAll ((bs.mergeSort (dataLe false (·.2))).map (·.2)) ((cs.mergeSort (dataLe false (·.2))).map (·.2)) = true := by
  refine toks_eqAll (fun x hx y hy => ?_) ?_
  · have hx : x ∈ bs.map (·.2) := (((List.mergeSort_perm bs _).map (·.2)).mem_iff).mp hx
    have hy : y ∈ cs.map (·.2) := (((List.mergeSort_perm cs _).map (·.2)).mem_iff).mp hy
    exact al x hx y (h.mem_iff.mpr hy)
  · rw [List.map_map, List.map_map]
    refine (toks_sort (·.2) bs).trans (Eq.trans (tle_sort ?_) (toks_sort (·.2) cs).symm)
    have := h.map keyToks
    rw [List.map_map, List.map_map] at this
    exact this
end
/-! ### k49: subsets by bits, cases as data -/
section
open PySem PySem.W PyProof.Rows
def subN (ws : List Str) (b : Nat) : List Str := (ws.zipIdx.filter fun p => b.testBit p.2).map (·.1)
theorem subN_nil (b : Nat) : subN [] b = [] := rfl
theorem subN_snoc (ws : List Str) (w : Str) (b : Nat) : subN (ws ++ [w]) b = subN ws b ++ (if b.testBit ws.length then [w] else []) := by
  unfold subN
  rw [List.zipIdx_append, List.filter_append, List.map_append]
  congr 1
  simp only [List.zipIdx_cons, List.zipIdx_nil, Nat.zero_add]
  rw [List.filter_cons]
  cases h : b.testBit ws.length <;> rfl
theorem subN_low {ws : List Str} {b : Nat} (h : b < 2 ^ ws.length) : subN ws (b + 2 ^ ws.length) = subN ws b := by
  unfold subN
  congr 1
  refine List.filter_congr fun p hp => ?_
  have hk : p.2 < ws.length := by
    obtain ⟨x, i⟩ := p
    have := List.snd_lt_of_mem_zipIdx hp
    simpa using this
  rw [Nat.add_comm, Nat.testBit_two_pow_add_gt hk]
def stN : Nat → Str
  | 0 => "none"
  | 1 => "open"
  | _ => "doomed"
def caseD (ws : List Str) (c : Nat × Nat × Nat) : PyData := .tuple [.str (stN c.1), .tuple ((subN ws c.2.1).map PyData.str), .tuple ((subN ws c.2.2).map PyData.str)]
theorem alike_strs : ∀ xs ys : List Str, alikeAll (xs.map PyData.str) (ys.map PyData.str) = true
  | [], _ => by simp [alikeAll]
  | _ :: _, [] => by simp [alikeAll]
  | x :: xs, y :: ys => by
    rw [List.map_cons, List.map_cons, alikeAll, alike_strs xs ys]
    rfl
theorem alike_case (ws : List Str) (c c' : Nat × Nat × Nat) : alike (caseD ws c) (caseD ws c') = true := by
  unfold caseD
  simp [alike, alikeAll, alike_strs]
theorem mem_subN {ws : List Str} {b : Nat} {z : Str} : z ∈ subN ws b ↔ ∃ k, ws[k]? = some z ∧ b.testBit k = true := by
  unfold subN
  simp only [List.mem_map, List.mem_filter]
  constructor
  · rintro ⟨⟨x, k⟩, ⟨h1, h2⟩, rfl⟩
    exact ⟨k, List.mk_mem_zipIdx_iff_getElem?.mp h1, h2⟩
  · rintro ⟨k, h1, h2⟩
    exact ⟨(z, k), ⟨List.mk_mem_zipIdx_iff_getElem?.mpr h1, h2⟩, rfl⟩
theorem nod_inj : ∀ {ws : List Str} {i j : Nat} {z : Str}, ws.Nodup → ws[i]? = some z → ws[j]? = some z → i = j
  | [], i, _, _, _, h, _ => by simp at h
  | w :: r, 0, 0, _, _, _, _ => rfl
  | w :: r, 0, j + 1, z, nd, h1, h2 => by
    cases h1
    exact absurd (List.mem_of_getElem? (show r[j]? = some w from h2)) (List.nodup_cons.mp nd).1
  | w :: r, i + 1, 0, z, nd, h1, h2 => by
    cases h2
    exact absurd (List.mem_of_getElem? (show r[i]? = some w from h1)) (List.nodup_cons.mp nd).1
  | w :: r, i + 1, j + 1, z, nd, h1, h2 => congrArg Nat.succ (nod_inj (List.nodup_cons.mp nd).2 h1 h2)
theorem disj_iff {ws : List Str} (nd : ws.Nodup) {h o : Nat} (hh : h < 2 ^ ws.length) : (subN ws h).filter (fun z => decide (z ∈ subN ws o)) = [] ↔ h &&& o = 0 := by
  rw [List.filter_eq_nil_iff]
  constructor
  · intro k
    refine Nat.eq_of_testBit_eq fun i => ?_
    rw [Nat.testBit_and, Nat.zero_testBit]
    cases e1 : h.testBit i with
    | false => rfl
    | true =>
      cases e2 : o.testBit i with
      | false => rfl
      | true =>
        have hi : i < ws.length := by
          rcases Nat.lt_or_ge i ws.length with l | g
          · exact l
          · rw [Nat.testBit_lt_two_pow (Nat.lt_of_lt_of_le hh (Nat.pow_le_pow_right (by decide) g))] at e1
            cases e1
        have m1 : ws[i] ∈ subN ws h := mem_subN.mpr ⟨i, List.getElem?_eq_getElem hi, e1⟩
        have m2 : ws[i] ∈ subN ws o := mem_subN.mpr ⟨i, List.getElem?_eq_getElem hi, e2⟩
        exact absurd (decide_eq_true m2) (k _ m1)
  · intro e z m1 m2
    obtain ⟨i, h1, b1⟩ := mem_subN.mp m1
    obtain ⟨j, h2, b2⟩ := mem_subN.mp (of_decide_eq_true m2)
    have hij : i = j := by
      obtain ⟨l1, g1⟩ := List.getElem?_eq_some_iff.mp h1
      obtain ⟨l2, g2⟩ := List.getElem?_eq_some_iff.mp h2
      exact nod_inj nd h1 h2
    subst hij
    have := congrArg (fun n => n.testBit i) e
    simp only [Nat.testBit_and, b1, b2, Nat.zero_testBit] at this
    cases this
end
theorem subN_lo {ws : List Str} {z : Str} {b : Nat} (h : b < 2 ^ ws.length) : subN (ws ++ [z]) b = subN ws b := by
  rw [subN_snoc, Nat.testBit_lt_two_pow h]
  exact List.append_nil _
theorem subN_hi {ws : List Str} {z : Str} {b : Nat} (h : b < 2 ^ ws.length) : subN (ws ++ [z]) (b + 2 ^ ws.length) = subN ws b ++ [z] := by
  rw [subN_snoc, subN_low h]
  have : (b + 2 ^ ws.length).testBit ws.length = true := by
    rw [Nat.add_comm, Nat.testBit_two_pow_add_eq, Nat.testBit_lt_two_pow h]; rfl
  rw [this]; rfl
theorem subN_len {ws : List Str} {b : Nat} : (subN ws b).length ≤ ws.length := by
  unfold subN
  rw [List.length_map]
  exact Nat.le_trans (List.length_filter_le _ _) (by rw [List.length_zipIdx]; exact Nat.le_refl _)
theorem subN_zero (ws : List Str) : subN ws 0 = [] := by
  unfold subN
  have : (ws.zipIdx.filter fun p => (0 : Nat).testBit p.2) = [] := by
    rw [List.filter_eq_nil_iff]
    intro p _
    simp
  rw [this]; rfl
/-! ### f(k = v, ..): a def called with keywords alone -/
section
open PySem PySem.Spec PyProof.Rows
variable {X : Cx} {CX : CXT} {k : Nat} {f : Addr} {fd : FuncData} {ps ks : List Str} {sp : Sp} {E : XK} {x : Str} {p pos : Pos} {kws : List Keyword} {tk : TA} {g : List Value → List Value → List Value} {gV : List V → List V → List V}
theorem pe_callN0 (F : FnOk X.prog X.w X.K X.mg X.base CX k f fd ps sp) (hr : Room k X.A) (hg : Gl X x) (hm : X.mg x = some (.ref f)) (hk : PySem.W.keepIn X.K (.ref f) = true) (hb : KBn X.K fd ps 0 ks g gV) (hx : Passes CX X E)
    (hkw : PK X kws tk) (hall : (backToKw pos (keywordEach kws X.env)).all (·.1.isSome) = true := by rfl) (hks : (backToKw pos (keywordEach kws X.env)).filterMap (·.1) = ks := by rfl)
    (hdb : (x == ("__debug__" : Str)) = false := by decide)
    (hpl : ((backTo pos (starEach [] X.env)).any (·.1) || (backToKw pos (keywordEach kws X.env)).any (·.1.isNone)) = false := by rfl) :
    PE X (.Call (.Name x p) [] kws pos) (tCallN 0 ks.length sp gV E tNil tk) := by
  refine ⟨fun pins s σ H Q I h => ?_⟩
  refine wpAny_Call_Name_kw (ld_glob I hg hm ?_ hdb)
  refine PySem.W.callWith_KW0 (h₀ := X.base) I.ok.mod.kin hk hall ?_ hpl
  refine thn (hkw.run pos pins s σ H _ I h) fun ws s2 ⟨zs, H2, I2, rz, l1, l2, q2⟩ => ⟨I2.kIn, ?_⟩
  rw [hks]
  exact run_fnN (us := []) (vs := []) F hr hb hx I2 .nil rz rfl l2 q2
end
abbrev s_law_bag : Stmt := top 8
theorem sc_law_bag : FnScope ["_law_script", "_law_at", "_law_cell", "_law_size", "_law_start"] ["_law_script", "_law_at"] (defScope s_law_bag) := ⟨rfl, rfl, rfl, by decide +kernel, rfl, by decide +kernel, by decide +kernel⟩
abbrev s_law_draw : Stmt := top 9
theorem sc_law_draw : FnScope ["_law_bag_here", "_law_many", "_law_digit", "_law_turn", "_law_mixed"] ["_law_bag_here", "_law_many"] (defScope s_law_draw) := ⟨rfl, rfl, rfl, by decide +kernel, rfl, by decide +kernel, by decide +kernel⟩
abbrev s_law_of : Stmt := top 10
theorem sc_law_of : FnScope ["_law_bag_here", "_law_some"] ["_law_bag_here", "_law_some"] (defScope s_law_of) := ⟨rfl, rfl, rfl, by decide +kernel, rfl, by decide +kernel, by decide +kernel⟩
abbrev s_law_names : Stmt := top 11
theorem sc_law_names : FnScope ["_law_bag_here", "_law_many", "_law_letters", "_law_stem", "_law_first", "_law_is_behind", "_law_some", "_law_k", "_law_one"] ["_law_bag_here", "_law_many"] (defScope s_law_names) := ⟨rfl, rfl, rfl, by decide +kernel, rfl, by decide +kernel, by decide +kernel⟩
abbrev s_law_subsets : Stmt := top 12
theorem sc_law_subsets : FnScope ["_law_marks", "_law_found", "_law_one", "_law_some"] ["_law_marks"] (defScope s_law_subsets) := ⟨rfl, rfl, rfl, by decide +kernel, rfl, by decide +kernel, by decide +kernel⟩
abbrev s_law_due : Stmt := top 13
theorem sc_law_due : FnScope ["_law_marks", "_law_sets", "_law_found", "_law_outer", "_law_held", "_law_some", "_law_one"] ["_law_marks"] (defScope s_law_due) := ⟨rfl, rfl, rfl, by decide +kernel, rfl, by decide +kernel, by decide +kernel⟩
abbrev s_entry_bits : Stmt := top 4
theorem sc_entry_bits : FnScope ["many", "is_silent", "found", "outer", "held"] ["many", "is_silent"] (defScope s_entry_bits) := ⟨rfl, rfl, rfl, by decide +kernel, rfl, by decide +kernel, by decide +kernel⟩
abbrev s_entry_cases : Stmt := top 6
theorem sc_entry_cases : FnScope ["records", "silent", "looked", "own", "found", "state", "outer", "held", "sets", "k", "record", "bits"] ["records", "silent"] (defScope s_entry_cases) := ⟨rfl, rfl, rfl, by decide +kernel, rfl, by decide +kernel, by decide +kernel⟩
abbrev s_law : Stmt := top 14
theorem sc_law : FnScope ["_law_script", "_law_at", "_law_bag_here", "_law_marks", "_law_given", "_law_due_here", "_law_told", "_law_few"] ["_law_script"] (defScope s_law) := ⟨rfl, rfl, rfl, by decide +kernel, rfl, by decide +kernel, by decide +kernel⟩

structure Ad where
  law_bag : Addr
  law_draw : Addr
  law_of : Addr
  law_names : Addr
  law_subsets : Addr
  law_due : Addr
  entry_bits : Addr
  entry_cases : Addr
  law : Addr
structure Fd where
  law_bag : FuncData
  law_draw : FuncData
  law_of : FuncData
  law_names : FuncData
  law_subsets : FuncData
  law_due : FuncData
  entry_bits : FuncData
  entry_cases : FuncData
  law : FuncData
structure Txt (K : PySem.W.Frag) (mg : Str → Option Value) (a : Ad) (d : Fd) : Prop where
  v_NONE : ∃ u, mg "NONE" = some u ∧ RelV (.int 0) u
  v_OPEN : ∃ u, mg "OPEN" = some u ∧ RelV (.int 1) u
  v_DOOMED : ∃ u, mg "DOOMED" = some u ∧ RelV (.int 2) u
  law_bag : Fun K "_law_bag" "_law_bag" s_law_bag a.law_bag d.law_bag
  b_law_bag : Binds K d.law_bag ["_law_script", "_law_at"] []
  g_law_bag : mg "_law_bag" = some (.ref a.law_bag)
  law_draw : Fun K "_law_draw" "_law_draw" s_law_draw a.law_draw d.law_draw
  b_law_draw : Binds K d.law_draw ["_law_bag_here", "_law_many"] []
  g_law_draw : mg "_law_draw" = some (.ref a.law_draw)
  law_of : Fun K "_law_of" "_law_of" s_law_of a.law_of d.law_of
  b_law_of : Binds K d.law_of ["_law_bag_here", "_law_some"] []
  g_law_of : mg "_law_of" = some (.ref a.law_of)
  law_names : Fun K "_law_names" "_law_names" s_law_names a.law_names d.law_names
  b_law_names : Binds K d.law_names ["_law_bag_here", "_law_many"] []
  g_law_names : mg "_law_names" = some (.ref a.law_names)
  law_subsets : Fun K "_law_subsets" "_law_subsets" s_law_subsets a.law_subsets d.law_subsets
  b_law_subsets : Binds K d.law_subsets ["_law_marks"] []
  g_law_subsets : mg "_law_subsets" = some (.ref a.law_subsets)
  law_due : Fun K "_law_due" "_law_due" s_law_due a.law_due d.law_due
  b_law_due : Binds K d.law_due ["_law_marks"] []
  g_law_due : mg "_law_due" = some (.ref a.law_due)
  entry_bits : Fun K "entry_bits" "entry_bits" s_entry_bits a.entry_bits d.entry_bits
  b_entry_bits : Binds K d.entry_bits ["many", "is_silent"] []
  g_entry_bits : mg "entry_bits" = some (.ref a.entry_bits)
  entry_cases : FunD K "entry_cases" "entry_cases" (defArgs s_entry_cases) (defBody s_entry_cases) (defScope s_entry_cases) [] [("silent", .bl false)] a.entry_cases d.entry_cases
  g_entry_cases : mg "entry_cases" = some (.ref a.entry_cases)
  law : Fun K "law" "law" s_law a.law d.law
  b_law : Binds K d.law ["_law_script"] []
  g_law : mg "law" = some (.ref a.law)
  n_len : mg "len" = none
  n_abs : mg "abs" = none
  n_int : mg "int" = none
  n_range : mg "range" = none
  n_sorted : mg "sorted" = none
  n_enumerate : mg "enumerate" = none
  n_tuple : mg "tuple" = none
  n_max : mg "max" = none
  n_min : mg "min" = none
  n_list : mg "list" = none
  n_isinstance : mg "isinstance" = none

section
variable {w : World} {K : PySem.W.Frag} {mg : Str → Option Value} {base : Heap} {a : Ad} {d : Fd}
/-! ### k49: the bag (not built yet) -/
def BagO (o : HO) (c : Nat) : Prop := ∃ a b n : Int, o = .lst [.int a, .int b, .int n] ∧ 0 ≤ a ∧ 0 ≤ b ∧ b < 2 ^ 63 ∧ 0 ≤ n ∧ n ≤ c
theorem BagO.mono {o : HO} {c d : Nat} (h : BagO o c) (l : c ≤ d) : BagO o d := by
  obtain ⟨a, b, n, e, h1, h2, h3, h4, h5⟩ := h
  exact ⟨a, b, n, e, h1, h2, h3, h4, by omega⟩
def spBag (K : PySem.W.Frag) : Sp := fun vs H Q _ => ∃ (a : Addr) (ns : List Int) (i : Nat), vs = [.ref a, .int (i : Int)] ∧ SqL K H a (ns.map V.int) ∧ i < 1000 ∧
  ∀ p o, H p = none → BagO o 0 → Q (.ref p) (upd H p o)
def spDrawB : Sp := fun vs H Q _ => ∃ (p : Addr) (m : Int) (c : Nat) (o : HO), vs = [.ref p, .int m] ∧ H p = some o ∧ BagO o c ∧ 0 < m ∧ m < 2 ^ 200 ∧ c < 2 ^ 40 ∧
  ∀ r o', 0 ≤ r → r < m → BagO o' (c + 1) → Q (.int r) (upd H p o')
theorem ok_law_draw (T : Txt K mg a d) : FnOk P w K mg base CX0 1 a.law_draw d.law_draw ["_law_bag_here", "_law_many"] spDrawB := by
  refine T.law_draw.ok sc_law_draw (fun vs H Q E h => ?_) (fun cdv A outer s H vs Q E hr h => ?_)
  · obtain ⟨p, m, c, o, rfl, _⟩ := h
    rfl
  · obtain ⟨p, m, c, o, rfl, hp, ⟨x, y, n, rfl, hx, hy, hy2, hn, hn2⟩, hm, hm2, hc, k⟩ := h
    have hw : ∀ i : Int, CDivW i m := fun i => wide_div (b := 200) hm (by omega) (by decide) (by decide)
    have e1 : (b2 : Int) → 0 ≤ b2 → b2 < 2 ^ 63 → CPow (b2 + 92821 * (n + 1)) 3 := fun b2 h1 h2 => ⟨by decide, by decide, by omega⟩
    have e2 : (b2 : Int) → 0 ≤ b2 → b2 < 2 ^ 63 → CPow (b2 + 51199 * (n + 1)) 2 := fun b2 h1 h2 => ⟨by decide, by decide, by omega⟩
    have e3 : ∀ i j : Int, -1000000 < i → i < 1000000 → CMul i j := fun i j h1 h2 => .inl ⟨by omega, by omega⟩
    refine ⟨_, (pss_cons (ps_if (pt_cmpR op_gt (pe_ix ix_list (pv 0) pe_int (fun _ _ => rfl)) pe_int (nomark _)) (pss_cons (ps_set (i := 2) sc_law_draw.nd rfl (Or.inl rfl) (pe_op op_mod (pe_callTy call_int1 (by rfl) T.n_int (by decide +kernel) (pa_cons (pe_ix ix_list (pv 0) pe_int (fun _ _ => rfl)) pa_nil)) (pv 1)))
  (pss_cons (ps_asg (pe_op op_fdivW (pe_ix ix_list (pv 0) pe_int (fun _ _ => rfl)) (pv 1)) (pg_sub (pv 0) pe_int set_list))
  (pss_one (ps_ret (pv 2))))) pss_nil)
  (pss_cons (ps_set (i := 3) sc_law_draw.nd rfl (Or.inl rfl) (pe_op op_add (pe_ix ix_list (pv 0) pe_int (fun _ _ => rfl)) pe_int))
  (pss_cons (ps_asg (pv 3) (pg_sub (pv 0) pe_int set_list))
  (pss_cons (ps_set (i := 4) sc_law_draw.nd rfl (Or.inl rfl) (pe_op op_mod (pe_callTy call_int1 (by rfl) T.n_int (by decide +kernel) (pa_cons (pe_op op_add (pe_op op_pow (pe_op op_add (pe_ix ix_list (pv 0) pe_int (fun _ _ => rfl)) (pe_op op_mul pe_int (pv 3))) pe_int) (pe_op op_mul pe_int (pv 3))) pa_nil)) pe_int))
  (pss_cons (ps_set (i := 4) sc_law_draw.nd rfl (Or.inl rfl) (pe_op op_mod (pe_callTy call_int1 (by rfl) T.n_int (by decide +kernel) (pa_cons (pe_op op_pow (pe_op op_add (pv 4) (pe_op op_mul pe_int (pv 3))) pe_int) pa_nil)) pe_int))
  (pss_one (ps_ret (pe_op op_mod (pe_callTy call_int1 (by rfl) T.n_int (by decide +kernel) (pa_cons (pe_op op_fdivW (pv 4) pe_int) pa_nil)) (pv 1))))))))), ?_⟩
    dsimp only [cxOf]
    walk_at "rd"
    refine ite2 (fun c0 => ?_) (fun c0 => ?_)
    · have c1 : 0 < x := of_decide_eq_true c0
      walk_at "rd"
      refine And.intro (hw _) ?_
      walk_at "rd"
      refine k _ _ (Int.emod_nonneg _ (by omega)) (Int.emod_lt_of_pos _ hm) ⟨_, _, _, rfl, Int.ediv_nonneg (by omega) (by omega), hy, hy2, hn, by omega⟩
    · walk_at "rd"
      refine And.intro (e1 _ hy hy2) ?_
      walk_at "rd"
      refine And.intro (e2 _ (Int.emod_nonneg _ (by decide)) (Int.lt_trans (Int.emod_lt_of_pos _ (by decide)) (by decide))) ?_
      walk_at "rd"
      refine k _ _ (Int.emod_nonneg _ (by omega)) (Int.emod_lt_of_pos _ hm) ⟨_, _, _, rfl, hx, hy, hy2, by omega, by omega⟩
theorem ok_law_bag (T : Txt K mg a d) : FnOk P w K mg base CX0 1 a.law_bag d.law_bag ["_law_script", "_law_at"] (spBag K) := by
  refine T.law_bag.ok sc_law_bag (fun vs H Q E h => ?_) (fun cdv A outer s H vs Q E hr h => ?_)
  · obtain ⟨p, ns, i, rfl, _⟩ := h
    rfl
  · obtain ⟨p, ns, i, rfl, hS, hi, k⟩ := h
    have e3 : ∀ i j : Int, -1000000 < i → i < 1000000 → CMul i j := fun i j h1 h2 => .inl ⟨by omega, by omega⟩
    have e4 : ∀ i j : Int, -1000000 < j → j < 1000000 → CMul i j := fun i j h1 h2 => .inr ⟨by omega, by omega⟩
    refine ⟨_, (pss_cons (ps_set (i := 2) sc_law_bag.nd rfl (Or.inl rfl) (pe_ifExp (pt_cmpR op_lt (pv 1) (pe_callB call_len_seq (by rfl) T.n_len PySem.boot_len (pa_cons (pv 0) pa_nil)) (nomark _)) (pe_ix ix_list (pv 0) (pv 1) (fun _ _ => rfl)) pe_int))
  (pss_cons (ps_set (i := 3) sc_law_bag.nd rfl (Or.inl rfl) (pe_callB call_abs (by rfl) T.n_abs (by decide +kernel) (pa_cons (pv 2) pa_nil)))
  (pss_cons (ps_set (i := 4) sc_law_bag.nd rfl (Or.inl rfl) (pe_op op_mod (pe_callTy call_int1 (by rfl) T.n_int (by decide +kernel) (pa_cons (pe_op op_add (pe_op op_add (pe_op op_mul (pv 3) pe_int) (pe_op op_mul pe_int (pv 1))) (pe_callTy call_int1 (by rfl) T.n_int (by decide +kernel) (pa_cons (pe_cmpR op_lt (pv 2) pe_int (nomark _)) pa_nil))) pa_nil)) pe_int))
  (pss_one (ps_ret (pe_lst (pa_cons (pe_ifExp (pt_cmpR op_ge (pv 3) (pe_op op_pow pe_int pe_int) (nomark _)) (pv 3) pe_int) (pa_cons (pe_op op_add (pv 4) pe_int) (pa_cons pe_int pa_nil))))))))), ?_⟩
    dsimp only [cxOf]
    walk_at "rd"
    refine ite2 (fun c0 => ?_) (fun c0 => ?_)
    · have c1 : (i : Int) < ((ns.map V.int).length : Int) := of_decide_eq_true c0
      rw [List.length_map] at c1
      have c2 : i < ns.length := by omega
      have hz : (ns.map V.int)[i]? = some (.int ns[i]) := by
        rw [List.getElem?_map, List.getElem?_eq_getElem c2]; rfl
      walk_at "rd"
      refine And.intro (atI_nat hz) ?_
      walk_at "rd"
      refine ite2 (fun c2 => ?_) (fun c2 => ?_)
      all_goals
        walk_at "rd"
        intro q hq
        exact k q _ hq ⟨_, _, _, rfl, (by first | (split <;> omega) | decide), Int.add_nonneg (Int.emod_nonneg _ (by decide)) (by decide), Int.lt_trans (Int.add_lt_add_right (Int.emod_lt_of_pos _ (by decide)) _) (by decide), Int.le_refl 0, Int.le_refl 0⟩
    · walk_at "rd"
      intro q hq
      exact k q _ hq ⟨_, _, _, rfl, Int.le_refl 0, Int.add_nonneg (Int.emod_nonneg _ (by decide)) (by decide), Int.lt_trans (Int.add_lt_add_right (Int.emod_lt_of_pos _ (by decide)) _) (by decide), Int.le_refl 0, Int.le_refl 0⟩
/-- one of several: the list stands, it is not the bag -/
def spOf (K : PySem.W.Frag) : Sp := fun vs H Q _ => ∃ (p q : Addr) (xs : List V) (c : Nat) (o : HO), vs = [.ref p, .ref q] ∧ q ≠ p ∧ H p = some o ∧ BagO o c ∧ c < 2 ^ 40 ∧ H q = some (.lst xs) ∧ 0 < xs.length ∧ xs.length < 1000 ∧
  ∀ (j : Nat) (v : V) (o' : HO), xs[j]? = some v → BagO o' (c + 1) → Q v (upd H p o')
theorem ok_law_of (T : Txt K mg a d) : FnOk P w K mg base CX0 2 a.law_of d.law_of ["_law_bag_here", "_law_some"] (spOf K) := by
  have G_law_draw : FnOk P w K mg base CX0 1 a.law_draw d.law_draw ["_law_bag_here", "_law_many"] spDrawB := ok_law_draw T
  refine T.law_of.ok sc_law_of (fun vs H Q E h => ?_) (fun cdv A outer s H vs Q E hr h => ?_)
  · obtain ⟨p, q, xs, c, o, rfl, _⟩ := h
    rfl
  · obtain ⟨p, q, xs, c, o, rfl, nq, hp, ho, hc, hq, l0, l1, k⟩ := h
    refine ⟨_, (pss_one (ps_ret (pe_ix ix_list (pv 1) (pe_call G_law_draw (hr.mono (by decide)) (by rfl) T.g_law_draw T.law_draw.kp T.b_law_draw .nil pass0 (pa_cons (pv 0) (pa_cons (pe_callB call_len_seq (by rfl) T.n_len PySem.boot_len (pa_cons (pv 1) pa_nil)) pa_nil))) (fun _ _ => rfl)))), ?_⟩
    dsimp only [cxOf]
    have l2 : (0 : Int) < (xs.length : Int) := by omega
    have l3 : (xs.length : Int) < 2 ^ 200 := by omega
    walk_at "rd"
    intro r o1 r0 r1 h1
    have hq1 := upd_oth (o := o1) nq hq
    obtain ⟨j, rfl⟩ := Int.eq_ofNat_of_zero_le r0
    have hj : j < xs.length := by omega
    exact ⟨_, _, _, _, rfl, rfl, SqL.of hq1, atI_nat (List.getElem?_eq_getElem hj), k j _ o1 (List.getElem?_eq_getElem hj) h1⟩
/-! ### k49: the subsets of the marks -/
theorem op_catAK {X : Cx} {K : PySem.W.Frag} (hK : X.K = K) : OpR X (binaryOp .Add) (rCatA K) := hK ▸ op_catA
def SubsL (H : Hp) (ws : List Str) (ts : List Addr) : Prop := ts.length = 2 ^ ws.length ∧ ∀ b t, ts[b]? = some t → H t = some (.tup ((subN ws b).map V.str))
theorem SubsL.same {H H' : Hp} {ws : List Str} {ts : List Addr} (e : Same H H') (h : SubsL H ws ts) : SubsL H' ws ts := ⟨h.1, fun b t m => e _ _ (h.2 b t m)⟩
def spSubs (K : PySem.W.Frag) : Sp := fun vs H Q _ => ∃ (p : Addr) (ws : List Str), vs = [.ref p] ∧ H p = some (.lst (ws.map V.str)) ∧ ws.length ≤ 4 ∧
  ∀ (H' : Hp) (q : Addr) (ys : List Str) (ts : List Addr), Same H H' → ys.Perm ws → PyProof.Rows.sortedS ys = true → H' q = some (.lst (ts.map V.ref)) → SubsL H' ys ts → H q = none → Q (.ref q) H'
theorem pow_le {n : Nat} (h : n ≤ 4) : 2 ^ n ≤ 16 := Nat.pow_le_pow_right (n := 2) (by decide) h
theorem map_at {α β : Type} {f : α → β} {l : List α} {i : Nat} {y : β} (h : (l.map f)[i]? = some y) : ∃ x, l[i]? = some x ∧ y = f x := by
  rw [List.getElem?_map] at h
  cases q : l[i]? with
  | none => rw [q] at h; cases h
  | some x => rw [q] at h; cases h; exact ⟨x, rfl, rfl⟩
theorem ok_law_subsets (T : Txt K mg a d) : FnOk P w K mg base CX0 1 a.law_subsets d.law_subsets ["_law_marks"] (spSubs K) := by
  refine T.law_subsets.ok sc_law_subsets (fun vs H Q E h => ?_) (fun cdv A outer s H vs Q E hr h => ?_)
  · obtain ⟨p, ws, rfl, _⟩ := h
    rfl
  · obtain ⟨p, ws, rfl, hp, l4, k⟩ := h
    refine ⟨_, (pss_cons (ps_set (i := 1) sc_law_subsets.nd rfl (Or.inl rfl) (pe_lst (pa_cons (pe_tup pa_nil) pa_nil)))
  (pss_cons (ps_for PassesOwn.never rfl (pi_list (pe_callB cr_sortedS (by rfl) T.n_sorted (by decide +kernel) (pa_cons (pv 0) pa_nil))) (pg_name (i := 2) sc_law_subsets.nd rfl (Or.inr rfl))
  (pss_one (ps_set (i := 1) sc_law_subsets.nd rfl (Or.inl rfl) (pe_op op_cat (pv 1) (pe_lc (own := [("_law_some", 3)]) (tt := tYes) rfl sc_law_subsets.nd (pi_list (pv 1)) (blkOk_by (own := [("_law_some", 3)]) (N := ["_law_marks", "_law_found", "_law_one", "_law_some"]) (sc := defScope s_law_subsets) (by decide +kernel)) (fun _ _ _ _ _ => (pg_name (i := 3) sc_law_subsets.nd rfl (Or.inl rfl))) (fun _ _ _ _ _ => pts_nil) (fun _ _ _ _ _ => (pe_op (op_catAK (K := K) rfl) (pv 3) (pe_tup (pa_cons (pv 2) pa_nil)))))))))
  (pss_one (ps_ret (pv 1))))), ?_⟩
    dsimp only [cxOf]
    walk_at "rd"
    intro t0 ht0
    have s0 : Same H (upd H t0 (.tup [])) := (Same.refl H).new ht0
    have et0 := upd_same (H := H) (a := t0) (o := .tup [])
    generalize upd H t0 (.tup []) = H0 at s0 et0 ⊢
    walk_at "rd"
    intro q0 hq0
    have s1 : Same H (upd H0 q0 (.lst [.ref t0])) := s0.new hq0
    have eq0 := upd_same (H := H0) (a := q0) (o := .lst [.ref t0])
    have et1 := upd_old (o := .lst [.ref t0]) et0 hq0
    generalize upd H0 q0 (.lst [.ref t0]) = H1 at s1 eq0 et1 ⊢
    have lz : ws.length < 64 := by omega
    have hp1 := s1 _ _ hp
    walk_at "rd"
    intro ys r pm so hr
    have s2 : Same H (upd H1 r (.lst (ys.map V.str))) := s1.new hr
    have er2 := upd_same (H := H1) (a := r) (o := .lst (ys.map V.str))
    have eq2 := upd_old (o := .lst (ys.map V.str)) eq0 hr
    have et2 := upd_old (o := .lst (ys.map V.str)) et1 hr
    generalize upd H1 r (.lst (ys.map V.str)) = H2 at s2 er2 eq2 et2 ⊢
    have ly : ys.length ≤ 4 := by rw [pm.length_eq]; exact l4
    refine ⟨_, rfl, ⟨_, SqL.of er2⟩, ?_⟩
    refine for_list (xs := ys.map V.str) (fun i σ H' => ∃ q ts v2 v3, Same H2 H' ∧ H q = none ∧ H' q = some (.lst (ts.map V.ref)) ∧ SubsL H' (ys.take i) ts ∧ σ = [some (.ref p), some (.ref q), v2, v3]) ?_ ?_ ?_ ?_
    · refine ⟨q0, [t0], none, none, Same.refl _, s0.free hq0, eq2, ⟨rfl, fun b t m => ?_⟩, rfl⟩
      match b, m with
      | 0, m => cases m; exact et2
    · rintro i σ H' _ ⟨q, ts, v2, v3, s3, _⟩
      exact SqL.of (s3 _ _ er2)
    · rintro i x σ H' hx ⟨q, ts, v2, v3, s3, hqn, hq, hs, rfl⟩
      obtain ⟨z, hz, rfl⟩ := map_at hx
      have li : i < ys.length := (List.getElem?_eq_some_iff.mp hz).1
      have lt : (ys.take i).length = i := by rw [List.length_take]; omega
      have et : ys.take (i + 1) = ys.take i ++ [z] := by rw [List.take_add_one, hz]; rfl
      have e16 := pow_le (n := i) (by omega)
      have hsl := hs.1
      rw [lt] at hsl
      walk_at "rd"
      refine ⟨⟨_, SqL.of hq⟩, fun D hD => ?_⟩
      refine lc_list (xs := ts.map V.ref) (fun j G => ∃ us : List Addr, Same H' G ∧ us.length = j ∧ G D = some (.lst (us.map V.ref)) ∧ ∀ b u, us[b]? = some u → G u = some (.tup ((subN (ys.take i) b ++ [z]).map V.str))) ?_ ?_ ?_ ?_
      · exact ⟨[], (Same.refl _).new hD, rfl, upd_same, fun b u m => by simp at m⟩
      · rintro j G _ ⟨us, s4, _⟩
        exact SqL.of (s4 _ _ hq)
      · rintro j x G hx ⟨us, s4, hj, hG, hu⟩
        obtain ⟨t, ht, rfl⟩ := map_at hx
        have lj : j < ts.length := (List.getElem?_eq_some_iff.mp ht).1
        have et4 := s4 _ _ (hs.2 j t ht)
        refine ⟨rfl, ?_⟩
        walk_at "rd"
        intro q1 hq1
        have s5 := s4.new (o := .tup [.str z]) hq1
        have e5 := upd_same (H := G) (a := q1) (o := .tup [.str z])
        have t5 := upd_old (o := .tup [.str z]) et4 hq1
        have D5 := upd_old (o := .tup [.str z]) hG hq1
        have u5 : ∀ b u, us[b]? = some u → upd G q1 (.tup [.str z]) u = some (.tup ((subN (ys.take i) b ++ [z]).map V.str)) := fun b u m => upd_old (hu b u m) hq1
        generalize upd G q1 (.tup [.str z]) = G1 at s5 e5 t5 D5 u5 ⊢
        have lsub := subN_len (ws := ys.take i) (b := j)
        have fin : ∀ u G2, Same G1 G2 → G2 u = some (.tup ((subN (ys.take i) j ++ [z]).map V.str)) → ∃ acc, G2 D = some (.lst acc) ∧ acc.length < sizeLine ∧ ∃ us : List Addr, Same H' (upd G2 D (.lst (acc ++ [.ref u]))) ∧ us.length = j + 1 ∧ upd G2 D (.lst (acc ++ [.ref u])) D = some (.lst (us.map V.ref)) ∧ ∀ b x, us[b]? = some x → upd G2 D (.lst (acc ++ [.ref u])) x = some (.tup ((subN (ys.take i) b ++ [z]).map V.str)) := by
          intro u G2 s6 hu2
          refine ⟨_, s6 _ _ D5, by rw [List.length_map, sizeLine_eq]; omega, us ++ [u], (s5.trans s6).frsh hD, by rw [List.length_append, hj]; rfl, by rw [upd_same, List.map_append]; rfl, fun b x m => ?_⟩
          have nD : ∀ {y : Addr} {l : List V}, G2 y = some (.tup l) → y ≠ D := fun {y l} h e => by
            rw [e, s6 _ _ D5] at h
            cases h
          rcases Nat.lt_or_ge b us.length with l | g
          · rw [List.getElem?_append_left l] at m
            have h2 := s6 _ _ (u5 b x m)
            exact upd_oth (nD h2) h2
          · rw [List.getElem?_append_right g] at m
            match e : b - us.length, m with
            | 0, m =>
              cases m
              have : b = j := by omega
              subst this
              exact upd_oth (nD hu2) hu2
        refine ⟨t, q1, _, [.str z], rfl, rfl, SqT.of t5, SqT.of e5, ?_, fun h => ?_, (fun _ h => by cases h), fun h1 _ q2 hq2 => ?_⟩
        · rw [List.length_map, sizeLine_eq]
          have : ([V.str z]).length = 1 := rfl
          omega
        · refine fin q1 G1 (Same.refl _) ?_
          rw [List.map_append, h]
          exact e5
        · refine fin q2 _ ((Same.refl _).new hq2) ?_
          rw [List.map_append]
          exact upd_same
      · rintro G ⟨us, s4, hj, hG, hu⟩
        rw [List.length_map] at hj
        have hq4 := s4 _ _ hq
        have lc : (ts.map V.ref).length + (us.map V.ref).length ≤ sizeLine := by
          rw [List.length_map, List.length_map, sizeLine_eq]; omega
        walk_at "rd"
        intro q5 hq5
        refine ⟨q5, ts ++ us, _, _, (s3.trans s4).new hq5, ((s2.trans s3).trans s4).free hq5, by rw [upd_same, List.map_append], ⟨?_, fun b t m => ?_⟩, rfl⟩
        · rw [et, List.length_append, List.length_append, lt, hj, hsl]
          show 2 ^ i + 2 ^ i = 2 ^ (i + 1)
          rw [Nat.pow_succ]; omega
        · rw [et]
          rcases Nat.lt_or_ge b ts.length with l | g
          · rw [List.getElem?_append_left l] at m
            rw [subN_lo (by rw [lt, ← hsl]; exact l)]
            exact upd_old (s4 _ _ (hs.2 b t m)) hq5
          · rw [List.getElem?_append_right g] at m
            obtain ⟨b', rfl⟩ : ∃ b', b = b' + 2 ^ (ys.take i).length := ⟨b - ts.length, by rw [lt, ← hsl]; omega⟩
            rw [show b' + 2 ^ (ys.take i).length - ts.length = b' by rw [lt, ← hsl]; omega] at m
            have hlt : b' < us.length := (List.getElem?_eq_some_iff.mp m).1
            rw [subN_hi (by rw [lt, ← hsl, ← hj]; exact hlt)]
            exact upd_old (hu _ t m) hq5
    · rintro σ H' ⟨q, ts, v2, v3, s3, hqn, hq, hs, rfl⟩
      rw [List.length_map, List.take_length] at hs
      walk_at "rd"
      exact k H' q ys ts (s2.trans s3) pm so hq hs hqn
/-! ### k49: names that are distinct -/
/-- [letters[draw(bag, 26)] for k in range(n)] -/
theorem lc_lettersB {n i0 i1 ik : Nat} {σ : St} {H1 : Hp} {D p : Addr} {o : HO} {c : Nat} {Qd : Hp → Prop} (hD : H1 D = none) (hp : H1 p = some o) (hc : BagO o c) (hb : c + n < 2 ^ 40) (hn : n < 1000000)
    (s0 : σ[i0]? = some (some (.ref p))) (s1 : σ[i1]? = some (some (.str alpha))) (n0 : i0 ≠ ik) (n1 : i1 ≠ ik)
    (q : ∀ H' cs o', cs.length = n → Lets cs → Kp (fun b => b = p) H1 H' → H' p = some o' → BagO o' (c + n) → H' D = some (.lst ((cs.map chr1).map V.str)) → Qd H') :
    ∃ W : Nat → Nat → Hp → Prop, (∃ m, W 0 m (upd H1 D (.lst []))) ∧ ∀ i m H, W i m H →
      ((Itr 0 n).stop i H ∧ Qd H) ∨ ((Itr 0 n).go i H ∧ ∃ Nx : Hp → Prop, (∀ H', Nx H' → ∃ m', m' < m ∧ W (i + 1) m' H') ∧ ∀ x H', (Itr 0 n).yld i H x H' → gName ik x (wipe σ [ik]) H' fun σ2 H2 => wipe σ2 [ik] = wipe σ [ik] ∧ tYes σ2 H2 fun b H3 =>
        if b = true then tOp rIxS (tVar i1) (tCall spDrawB [] E0 (tCons (tVar i0) (tCons (tC (.int 26)) tNil))) σ2 H3 fun y H4 => ∃ acc, H4 D = some (.lst acc) ∧ acc.length < sizeLine ∧ Nx (upd H4 D (.lst (acc ++ [y]))) else Nx H3) := by
  have npD : p ≠ D := ne_of_none hp hD
  have w0 : ∀ v, ((wipe σ [ik]).set ik (some v))[i0]? = some (some (.ref p)) := fun v => by
    rw [List.getElem?_set_ne (Ne.symm n0), wipe_out (by simp [n0])]; exact s0
  have w1 : ∀ v, ((wipe σ [ik]).set ik (some v))[i1]? = some (some (.str alpha)) := fun v => by
    rw [List.getElem?_set_ne (Ne.symm n1), wipe_out (by simp [n1])]; exact s1
  refine lc_range (fun i H => ∃ cs o', cs.length = i ∧ Lets cs ∧ Kp (fun b => b = p) H1 H ∧ H p = some o' ∧ BagO o' (c + i) ∧ H D = some (.lst ((cs.map chr1).map V.str))) ?_ ?_ ?_
  · exact ⟨[], o, rfl, (fun _ h => nomatch h), Kp.refl.new hD, upd_old hp hD, hc, upd_same⟩
  · rintro i H hi ⟨cs, o', e1, e2, e3, e4, e5, e6⟩
    refine ⟨?_, ?_⟩
    · show wipe ((wipe σ [ik]).set ik _) [ik] = wipe σ [ik]
      show (((σ.set ik none).set ik _).set ik none) = σ.set ik none
      rw [List.set_set, List.set_set]
    · refine ⟨_, w1 _, _, w0 _, p, 26, c + i, o', rfl, e4, e5, by decide, by decide, by omega, fun r o2 r0 r1 h2 => ?_⟩
      refine ⟨alpha, r, _, rfl, rfl, alpha_len, alpha_at r0 r1, (cs.map chr1).map V.str, upd_oth (Ne.symm npD) e6, ?_, ?_⟩
      · rw [List.length_map, List.length_map, e1, sizeLine_eq]; omega
      · refine ⟨cs ++ [97 + r.toNat], o2, ?_, ?_, ?_, ?_, h2, ?_⟩
        · rw [List.length_append, e1]; rfl
        · intro x hx
          rcases List.mem_append.mp hx with h | h
          · exact e2 x h
          · rw [List.mem_singleton] at h
            subst h
            omega
        · exact (e3.set rfl).fresh hD
        · exact upd_oth npD upd_same
        · rw [upd_same, List.map_append, List.map_append]; rfl
  · rintro H ⟨cs, o', e1, e2, e3, e4, e5, e6⟩
    exact q H cs o' e1 e2 e3 e4 e5 e6
theorem Kp.free {H H' : Hp} {p q : Addr} {o : HO} (k : Kp (fun b => b = p) H H') (hp : H' p = some o) (h : H' q = none) : H q = none := by
  cases e : H q with
  | none => rfl
  | some u =>
    have := k q u e fun z => by rw [z, hp] at h; cases h
    rw [this] at h; cases h
def letN (f k : Nat) : Nat := 97 + (f + 7 * k) % 26
def nameN (cs : List Nat) (b : Bool) (f k : Nat) : Str := if b = true then ⟨cs.toArray⟩ ++ chr1 (letN f k) else chr1 (letN f k) ++ ⟨cs.toArray⟩
theorem nameN_l (cs : List Nat) (b : Bool) (f k : Nat) : (nameN cs b f k).cps.toList = if b = true then cs ++ [letN f k] else letN f k :: cs := by
  unfold nameN
  cases b
  · show ((#[letN f k] : Array Nat) ++ cs.toArray).toList = _
    simp
  · show (cs.toArray ++ (#[letN f k] : Array Nat)).toList = _
    simp
theorem nameN_inj {cs : List Nat} {b : Bool} {f i j : Nat} (hi : i < 4) (hj : j < 4) (h : nameN cs b f i = nameN cs b f j) : i = j := by
  have e := congrArg (fun z : Str => z.cps.toList) h
  simp only [nameN_l] at e
  have e : letN f i = letN f j := by
    cases b
    · simp only [Bool.false_eq_true, if_false, List.cons.injEq] at e
      exact e.1
    · simp only [if_true] at e
      have := List.append_cancel_left e
      simpa using this
  unfold letN at e
  omega
theorem nameN_asc {cs : List Nat} {b : Bool} {f k : Nat} (h : Lets cs) : asc (nameN cs b f k) := by
  intro c hc
  rw [nameN_l] at hc
  have h1 : letN f k < 128 := by unfold letN; omega
  cases b
  · rcases List.mem_cons.mp hc with rfl | m
    · exact h1
    · have := h c m; omega
  · rcases List.mem_append.mp hc with m | m
    · have := h c m; omega
    · rw [List.mem_singleton.mp m]; exact h1
def namesN (cs : List Nat) (b : Bool) (f n : Nat) : List Str := (List.range n).map (nameN cs b f)
theorem namesN_nd {cs : List Nat} {b : Bool} {f n : Nat} (hn : n ≤ 4) : (namesN cs b f n).Nodup := by
  unfold namesN List.Nodup
  rw [List.pairwise_map]
  refine List.Pairwise.imp_of_mem (fun {i j} hi hj h e => ?_) (List.nodup_range (n := n))
  rw [List.mem_range] at hi hj
  exact h (nameN_inj (by omega) (by omega) e)
def spNames : Sp := fun vs H Q _ => ∃ (p : Addr) (n c : Nat) (o : HO), vs = [.ref p, .int (n : Int)] ∧ n ≤ 4 ∧ H p = some o ∧ BagO o c ∧ c < 2 ^ 39 ∧
  ∀ (H' : Hp) (q : Addr) (ws : List Str) (o' : HO), Kp (fun b => b = p) H H' → H' p = some o' → BagO o' (c + 20) → H' q = some (.lst (ws.map V.str)) → ws.Nodup → ws.length = n → (∀ z ∈ ws, asc z) → H q = none → Q (.ref q) H'
theorem ok_law_names (T : Txt K mg a d) : FnOk P w K mg base CX0 2 a.law_names d.law_names ["_law_bag_here", "_law_many"] spNames := by
  have G_law_draw : FnOk P w K mg base CX0 1 a.law_draw d.law_draw ["_law_bag_here", "_law_many"] spDrawB := ok_law_draw T
  refine T.law_names.ok sc_law_names (fun vs H Q E h => ?_) (fun cdv A outer s H vs Q E hr h => ?_)
  · obtain ⟨p, n, c, o, rfl, _⟩ := h
    rfl
  · obtain ⟨p, n, c, o, rfl, hn, hp, hc, hb, k⟩ := h
    refine ⟨_, (pss_cons (ps_set (i := 2) sc_law_names.nd rfl (Or.inr rfl) pe_str)
  (pss_cons (ps_set (i := 3) sc_law_names.nd rfl (Or.inr rfl) (pe_join pe_str (pe_lc (own := [("_law_k", 7)]) (tt := tYes) rfl sc_law_names.nd (pi_range1 (by rfl) T.n_range (pa_cons (pe_call G_law_draw (hr.mono (by decide)) (by rfl) T.g_law_draw T.law_draw.kp T.b_law_draw .nil pass0 (pa_cons (pv 0) (pa_cons pe_int pa_nil))) pa_nil)) (blkOk_by (own := [("_law_k", 7)]) (N := ["_law_bag_here", "_law_many", "_law_letters", "_law_stem", "_law_first", "_law_is_behind", "_law_some", "_law_k", "_law_one"]) (sc := defScope s_law_names) (by decide +kernel)) (fun _ _ _ _ _ => (pg_name (i := 7) sc_law_names.nd rfl (Or.inl rfl))) (fun _ _ _ _ _ => pts_nil) (fun _ _ _ _ _ => (pe_ix ix_str (pv 2) (pe_call G_law_draw (hr.mono (by decide)) (by rfl) T.g_law_draw T.law_draw.kp T.b_law_draw .nil pass0 (pa_cons (pv 0) (pa_cons pe_int pa_nil))) (fun _ _ => rfl))))))
  (pss_cons (ps_asg (pe_tup (pa_cons (pe_call G_law_draw (hr.mono (by decide)) (by rfl) T.g_law_draw T.law_draw.kp T.b_law_draw .nil pass0 (pa_cons (pv 0) (pa_cons pe_int pa_nil))) (pa_cons (pe_cmpR op_eq (pe_call G_law_draw (hr.mono (by decide)) (by rfl) T.g_law_draw T.law_draw.kp T.b_law_draw .nil pass0 (pa_cons (pv 0) (pa_cons pe_int pa_nil))) pe_int (nomark _)) pa_nil))) (pg_tup rfl (pgs_cons (pg_name (i := 4) sc_law_names.nd rfl (Or.inr rfl)) (pgs_cons (pg_name (i := 5) sc_law_names.nd rfl (Or.inr rfl)) pgs_nil))))
  (pss_cons (ps_setLc (i := 6) (own := [("_law_k", 7)]) (tt := tYes) rfl sc_law_names.nd rfl rfl (sw_true rfl rfl rfl (by decide +kernel)) (pi_range1 (by rfl) T.n_range (pa_cons (pv 1) pa_nil)) (blkOk_by (own := [("_law_k", 7)]) (N := ["_law_bag_here", "_law_many", "_law_letters", "_law_stem", "_law_first", "_law_is_behind", "_law_some", "_law_k", "_law_one"]) (sc := defScope s_law_names) (by decide +kernel)) (fun _ _ _ _ _ => (pg_name (i := 7) sc_law_names.nd rfl (Or.inl rfl))) (fun _ _ _ _ _ => pts_nil) (fun _ _ _ _ _ => (pe_ix ix_str (pv 2) (pe_op op_mod (pe_callTy call_int1 (by rfl) T.n_int (by decide +kernel) (pa_cons (pe_op op_add (pv 4) (pe_op op_mul pe_int (pv 7))) pa_nil)) pe_int) (fun _ _ => rfl))))
  (pss_one (ps_ret (pe_lc (own := [("_law_one", 8)]) (tt := tYes) rfl sc_law_names.nd (pi_list (pv 6)) (blkOk_by (own := [("_law_one", 8)]) (N := ["_law_bag_here", "_law_many", "_law_letters", "_law_stem", "_law_first", "_law_is_behind", "_law_some", "_law_k", "_law_one"]) (sc := defScope s_law_names) (by decide +kernel)) (fun _ _ _ _ _ => (pg_name (i := 8) sc_law_names.nd rfl (Or.inl rfl))) (fun _ _ _ _ _ => pts_nil) (fun _ _ _ _ _ => (pe_ifExp (pt_val (pv 5)) (pe_op op_add_str (pv 3) (pv 8)) (pe_op op_add_str (pv 8) (pv 3))))))))))), ?_⟩
    dsimp only [cxOf]
    walk_at "rd"
    intro r o1 r0 r1 h1
    walk_at "rd"
    intro D hD
    refine lc_lettersB (c := c + 1) hD upd_same h1 (by omega) (by omega) rfl rfl (by decide) (by decide) fun H1 cs o2 e1 e2 e3 e4 e5 e6 => ?_
    refine ⟨_, _, cs.map chr1, rfl, rfl, Or.inl (SqL.of e6), ?_, ?_⟩
    · rw [sum_chr, e1]
      have : (Str.ofString "").length = 0 := by decide +kernel
      rw [this]; omega
    · rw [join_chr]
      walk_at "rd"
      intro f o3 f0 f1 h3
      walk_at "rd"
      intro bb o4 b0 b1 h4
      walk_at "rd"
      intro t ht
      obtain ⟨f, rfl⟩ := Int.eq_ofNat_of_zero_le f0
      have k5 : Kp (fun b => b = p) H (upd (upd (upd H1 p o3) p o4) t (.tup [.int (f : Int), .bl (decide (V.int bb = V.int 1))])) := (((Kp.refl.set1.trans e3).set1).set1).new ht
      have p5 : upd (upd (upd H1 p o3) p o4) t (.tup [.int (f : Int), .bl (decide (V.int bb = V.int 1))]) p = some o4 := upd_old upd_same ht
      have t5 := upd_same (H := upd (upd H1 p o3) p o4) (a := t) (o := .tup [.int (f : Int), .bl (decide (V.int bb = V.int 1))])
      generalize upd (upd (upd H1 p o3) p o4) t (.tup [.int (f : Int), .bl (decide (V.int bb = V.int 1))]) = H5 at k5 p5 t5 ⊢
      generalize decide (V.int bb = V.int 1) = b at t5 ⊢
      walk_at "rd"
      intro D2 hD2
      refine lc_range (fun i G => Same H5 G ∧ G D2 = some (.lst ((List.range i).map fun k => V.str (chr1 (letN f k))))) ?_ ?_ ?_
      · exact ⟨(Same.refl _).new hD2, upd_same⟩
      · rintro i G hi ⟨s6, g6⟩
        refine ⟨rfl, ?_⟩
        have hx : atI alpha.cps.toList (((f : Int) + 7 * (0 + (i : Int))) % 26) = some (letN f i) := by
          rw [alpha_at (by omega) (by omega)]
          unfold letN
          congr 1
          omega
        walk_at "rd"
        refine ⟨hx, _, g6, by rw [List.length_map, List.length_range, sizeLine_eq]; omega, s6.frsh hD2, ?_⟩
        rw [upd_same, List.range_succ, List.map_append]; rfl
      · rintro G ⟨s6, g6⟩
        have l3 : (Str.mk cs.toArray).length = cs.length := rfl
        walk_at "rd"
        refine ⟨⟨_, SqL.of g6⟩, fun D3 hD3 => ?_⟩
        refine lc_list (xs := (List.range n).map fun k => V.str (chr1 (letN f k))) (fun i F => Same G F ∧ F D3 = some (.lst ((List.range i).map fun k => V.str (nameN cs b f k)))) ?_ ?_ ?_ ?_
        · exact ⟨(Same.refl _).new hD3, upd_same⟩
        · rintro i F _ ⟨s7, _⟩
          exact SqL.of (s7 _ _ g6)
        · rintro i x F hx ⟨s7, g7⟩
          obtain ⟨j, hj, rfl⟩ := map_at hx
          obtain ⟨hj1, hj2⟩ := List.getElem?_eq_some_iff.mp hj
          rw [List.getElem_range] at hj2
          subst hj2
          rw [List.length_range] at hj1
          refine ⟨rfl, ?_⟩
          have fin : ((List.range i).map fun k => V.str (nameN cs b f k)).length < sizeLine ∧ Same G (upd F D3 (.lst (((List.range i).map fun k => V.str (nameN cs b f k)) ++ [V.str (nameN cs b f i)]))) ∧ upd F D3 (.lst (((List.range i).map fun k => V.str (nameN cs b f k)) ++ [V.str (nameN cs b f i)])) D3 = some (.lst ((List.range (i + 1)).map fun k => V.str (nameN cs b f k))) :=
            ⟨by rw [List.length_map, List.length_range, sizeLine_eq]; omega, s7.frsh hD3, by rw [upd_same, List.range_succ, List.map_append]; rfl⟩
          have lc : (chr1 (letN f i)).length = 1 := rfl
          have lc2 : (chr1 (letN f i)).length + (Str.mk cs.toArray).length ≤ sizeLine ∧ (Str.mk cs.toArray).length + (chr1 (letN f i)).length ≤ sizeLine := by
            rw [lc, l3, sizeLine_eq]; omega
          cases b
          · walk_at "rd"
            exact fin.2
          · walk_at "rd"
            exact fin.2
        · rintro F ⟨s7, g7⟩
          rw [List.length_map, List.length_range] at g7
          refine k F D3 (namesN cs b f n) o4 ((k5.trans (Kp.of_same s6)).trans (Kp.of_same s7)) (s7 _ _ (s6 _ _ p5)) (h4.mono (by omega)) ?_ (namesN_nd hn) ?_ ?_ ?_
          · rw [g7]; unfold namesN; rw [List.map_map]; rfl
          · unfold namesN; rw [List.length_map, List.length_range]
          · intro z hz
            unfold namesN at hz
            obtain ⟨j, _, rfl⟩ := List.mem_map.mp hz
            exact nameN_asc e2
          · exact ((k5.trans (Kp.of_same s6))).free (s6 _ _ p5) hD3
/-! ### k49: entry_bits -/
theorem bitAnd_nat (a b : Nat) : Builtin.bitAnd (a : Int) (b : Int) = ((a &&& b : Nat) : Int) := by
  unfold Builtin.bitAnd
  rw [decide_eq_true (Int.natCast_nonneg a), decide_eq_true (Int.natCast_nonneg b)]
  simp
def TupN (H : Hp) (t : Addr) (c : Nat × Nat × Nat) : Prop := H t = some (.tup [.int (c.1 : Int), .int (c.2.1 : Int), .int (c.2.2 : Int)])
def bitsIx (b : Bool) (m : Nat) : List (Nat × Nat × Nat) := if b = true then [(0, 0, 0), (1, 0, 0), (2, 0, 0)] else casesIx m
def innIx (o j : Nat) : List (Nat × Nat × Nat) := ((List.range j).filter fun h => h &&& o = 0).flatMap fun h => [(1, o, h), (2, o, h)]
def outIx (m i : Nat) : List (Nat × Nat × Nat) := (List.range i).flatMap fun o => (0, o, 0) :: innIx o m
theorem outIx_succ (m i : Nat) : outIx m (i + 1) = outIx m i ++ (0, i, 0) :: innIx i m := by
  unfold outIx
  rw [List.range_succ, List.flatMap_append]
  simp
theorem innIx_succ (o j : Nat) : innIx o (j + 1) = innIx o j ++ (if j &&& o = 0 then [(1, o, j), (2, o, j)] else []) := by
  unfold innIx
  rw [List.range_succ, List.filter_append, List.flatMap_append]
  congr 1
  by_cases h : j &&& o = 0
  · rw [if_pos h, List.filter_cons_of_pos (by simp [h])]
    simp
  · rw [if_neg h, List.filter_cons_of_neg (by simp [h])]
    simp
theorem innIx_len (o : Nat) : ∀ j, (innIx o j).length ≤ 2 * j
  | 0 => Nat.le_refl _
  | j + 1 => by
    rw [innIx_succ, List.length_append]
    have := innIx_len o j
    split <;> simp only [List.length_cons, List.length_nil] <;> omega
theorem outIx_len (m : Nat) : ∀ i, (outIx m i).length ≤ i * (2 * m + 1)
  | 0 => Nat.zero_le _
  | i + 1 => by
    rw [outIx_succ, List.length_append, List.length_cons, Nat.succ_mul]
    have := outIx_len m i
    have := innIx_len i m
    omega
def spBits : Sp := fun vs H Q _ => ∃ (n : Nat) (b : Bool), vs = [.int (n : Int), .bl b] ∧ n ≤ 4 ∧ ∀ (H' : Hp) (q : Addr) (ts : List Addr), Same H H' → H' q = some (.lst (ts.map V.ref)) → A2 (TupN H') ts (bitsIx b (2 ^ n)) → H q = none → Q (.ref q) H'
theorem shl_one (n : Nat) : (1 : Int) * 2 ^ ((n : Int)).toNat = ((2 ^ n : Nat) : Int) := by
  rw [Int.toNat_natCast, Int.one_mul, Int.natCast_pow]; rfl
theorem A2.up {H H' : Hp} {ts : List Addr} {cs : List (Nat × Nat × Nat)} (e : Same H H') (h : A2 (TupN H) ts cs) : A2 (TupN H') ts cs := h.imp fun _ _ r => e _ _ r
structure BitsI (H : Hp) (q : Addr) (G : Hp) (ts : List Addr) (cs : List (Nat × Nat × Nat)) : Prop where
  sm : Same H G
  fr : H q = none
  at_ : G q = some (.lst (ts.map V.ref))
  al : A2 (TupN G) ts cs
theorem BitsI.grow {H G : Hp} {q t : Addr} {ts : List Addr} {cs : List (Nat × Nat × Nat)} {c : Nat × Nat × Nat} (I : BitsI H q G ts cs) (ht : G t = none) :
    BitsI H q (upd (upd G t (.tup [.int (c.1 : Int), .int (c.2.1 : Int), .int (c.2.2 : Int)])) q (.lst (ts.map V.ref ++ [.ref t]))) (ts ++ [t]) (cs ++ [c]) := by
  have n1 : t ≠ q := Ne.symm (ne_of_none I.at_ ht)
  have nq : ∀ x l, G x = some (.tup l) → x ≠ q := fun x l h e => by rw [e, I.at_] at h; cases h
  refine ⟨(I.sm.new ht).frsh I.fr, I.fr, by rw [upd_same, List.map_append]; rfl, (I.al.imp fun x y r => ?_).app (.cons (upd_oth n1 upd_same) .nil)⟩
  exact upd_oth (nq x _ r) (upd_old r ht)
theorem ok_entry_bits (T : Txt K mg a d) : FnOk P w K mg base CX0 1 a.entry_bits d.entry_bits ["many", "is_silent"] spBits := by
  obtain ⟨_, v_NONE, r_NONE⟩ := T.v_NONE
  obtain ⟨_, v_OPEN, r_OPEN⟩ := T.v_OPEN
  obtain ⟨_, v_DOOMED, r_DOOMED⟩ := T.v_DOOMED
  refine T.entry_bits.ok sc_entry_bits (fun vs H Q E h => ?_) (fun cdv A outer s H vs Q E hr h => ?_)
  · obtain ⟨n, b, rfl, _⟩ := h
    rfl
  · obtain ⟨n, b, rfl, hn, k⟩ := h
    have e16 := pow_le hn
    have cp : CPow 1 (n : Int) := ⟨by omega, by omega, by decide⟩
    have hsh := shl_one n
    generalize 2 ^ n = m at e16 hsh k
    refine ⟨_, (pss_cons (ps_if (pt_val (pv 1)) (pss_one (ps_ret (pe_lst (pa_cons (pe_tup (pa_cons (pe_glob (v := .int 0) (by rfl) v_NONE r_NONE) (pa_cons pe_int (pa_cons pe_int pa_nil)))) (pa_cons (pe_tup (pa_cons (pe_glob (v := .int 1) (by rfl) v_OPEN r_OPEN) (pa_cons pe_int (pa_cons pe_int pa_nil)))) (pa_cons (pe_tup (pa_cons (pe_glob (v := .int 2) (by rfl) v_DOOMED r_DOOMED) (pa_cons pe_int (pa_cons pe_int pa_nil)))) pa_nil)))))) pss_nil)
  (pss_cons (ps_set (i := 2) sc_entry_bits.nd rfl (Or.inl rfl) (pe_lst pa_nil))
  (pss_cons (ps_for PassesOwn.never rfl (pi_range1 (by rfl) T.n_range (pa_cons (pe_op op_shl pe_int (pv 0)) pa_nil)) (pg_name (i := 3) sc_entry_bits.nd rfl (Or.inl rfl))
  (pss_cons (ps_expr (pe_bm PySem.F.plainAttrs_list PySem.F.slot_list_append PySem.F.type_list_append mt_append (pv 2) (pa_cons (pe_tup (pa_cons (pe_glob (v := .int 0) (by rfl) v_NONE r_NONE) (pa_cons (pv 3) (pa_cons pe_int pa_nil)))) pa_nil)))
  (pss_one (ps_for PassesOwn.never rfl (pi_range1 (by rfl) T.n_range (pa_cons (pe_op op_shl pe_int (pv 0)) pa_nil)) (pg_name (i := 4) sc_entry_bits.nd rfl (Or.inl rfl))
  (pss_one (ps_if (pt_cmpR op_eq (pe_op op_and (pv 4) (pv 3)) pe_int (nomark _)) (pss_cons (ps_expr (pe_bm PySem.F.plainAttrs_list PySem.F.slot_list_append PySem.F.type_list_append mt_append (pv 2) (pa_cons (pe_tup (pa_cons (pe_glob (v := .int 1) (by rfl) v_OPEN r_OPEN) (pa_cons (pv 3) (pa_cons (pv 4) pa_nil)))) pa_nil)))
  (pss_one (ps_expr (pe_bm PySem.F.plainAttrs_list PySem.F.slot_list_append PySem.F.type_list_append mt_append (pv 2) (pa_cons (pe_tup (pa_cons (pe_glob (v := .int 2) (by rfl) v_DOOMED r_DOOMED) (pa_cons (pv 3) (pa_cons (pv 4) pa_nil)))) pa_nil))))) pss_nil))))))
  (pss_one (ps_ret (pv 2)))))), ?_⟩
    dsimp only [cxOf]
    cases b
    · walk_at "rd"
      intro q hq
      have s0 : Same H (upd H q (.lst [])) := (Same.refl H).new hq
      have e0 := upd_same (H := H) (a := q) (o := .lst [])
      generalize upd H q (.lst []) = H0 at s0 e0 ⊢
      walk_at "rd"
      rw [hsh]
      refine for_range (fun i σ G => ∃ ts v3 v4, BitsI H q G ts (outIx m i) ∧ σ = [some (.int (n : Int)), some (.bl false), some (.ref q), v3, v4]) ?_ ?_ ?_
      · exact ⟨[], none, none, ⟨s0, hq, e0, .nil⟩, rfl⟩
      · rintro i σ G hi ⟨ts, v3, v4, I1, rfl⟩
        have hi : i < m := by omega
        have l1 := I1.al.len
        have g1 := I1.at_
        have l2 := outIx_len m i
        have l3 : (outIx m i).length ≤ 528 := Nat.le_trans l2 (Nat.le_trans (Nat.mul_le_mul (by omega : i ≤ 16) (by omega : 2 * m + 1 ≤ 33)) (by decide))
        have lz : (ts.map V.ref).length < sizeLine := by rw [List.length_map, sizeLine_eq]; omega
        rw [Int.zero_add]
        walk_at "rd"
        intro t ht
        have I2 := I1.grow (c := (0, i, 0)) ht
        have g2 : upd G t (.tup [.int ((0 : Nat) : Int), .int (i : Int), .int ((0 : Nat) : Int)]) q = some (.lst (ts.map V.ref)) := upd_old g1 ht
        refine ⟨_, _, _, rfl, rfl, g2, lz, ?_⟩
        generalize upd (upd G t (.tup [.int ((0 : Nat) : Int), .int (i : Int), .int ((0 : Nat) : Int)])) q (.lst (ts.map V.ref ++ [.ref t])) = G2 at I2 g2 ⊢
        have I3 : BitsI H q G2 (ts ++ [t]) (outIx m i ++ [(0, i, 0)] ++ innIx i 0) := by
          rw [show innIx i 0 = [] from rfl, List.append_nil]; exact I2
        clear I2
        walk_at "rd"
        rw [hsh]
        refine for_range (fun j σ G => ∃ ts v4, BitsI H q G ts (outIx m i ++ [(0, i, 0)] ++ innIx i j) ∧ σ = [some (.int (n : Int)), some (.bl false), some (.ref q), some (.int (i : Int)), v4]) ?_ ?_ ?_
        · exact ⟨_, v4, I3, rfl⟩
        · rintro j σ F hj ⟨us, v5, J1, rfl⟩
          have hj : j < m := by omega
          have l1 := J1.al.len
          have g3 := J1.at_
          have l4 := innIx_len i j
          simp only [List.length_append, List.length_cons, List.length_nil] at l1
          have lz : (us.map V.ref).length < sizeLine := by rw [List.length_map, sizeLine_eq]; omega
          rw [Int.zero_add]
          have ba := bitAnd_nat j i
          walk_at "rd"
          refine ite2 (fun c0 => ?_) (fun c0 => ?_)
          · have c1 := V.int.inj (of_decide_eq_true c0)
            rw [ba] at c1
            have c2 : j &&& i = 0 := by omega
            walk_at "rd"
            intro t ht
            have J2 := J1.grow (c := (1, i, j)) ht
            have g4 : upd F t (.tup [.int ((1 : Nat) : Int), .int (i : Int), .int (j : Int)]) q = some (.lst (us.map V.ref)) := upd_old g3 ht
            refine ⟨_, _, _, rfl, rfl, g4, lz, ?_⟩
            generalize upd (upd F t (.tup [.int ((1 : Nat) : Int), .int (i : Int), .int (j : Int)])) q (.lst (us.map V.ref ++ [.ref t])) = F2 at J2 ⊢
            have g5 := J2.at_
            have lz2 : ((us ++ [t]).map V.ref).length < sizeLine := by rw [List.length_map, List.length_append, sizeLine_eq]; simp only [List.length_cons, List.length_nil]; omega
            walk_at "rd"
            intro t2 ht2
            have J3 := J2.grow (c := (2, i, j)) ht2
            have g6 : upd F2 t2 (.tup [.int ((2 : Nat) : Int), .int (i : Int), .int (j : Int)]) q = some (.lst ((us ++ [t]).map V.ref)) := upd_old g5 ht2
            refine ⟨_, _, _, rfl, rfl, g6, lz2, ?_⟩
            refine ⟨us ++ [t] ++ [t2], _, ?_, rfl⟩
            rw [innIx_succ, if_pos c2]
            have e : outIx m i ++ [(0, i, 0)] ++ (innIx i j ++ [(1, i, j), (2, i, j)]) = outIx m i ++ [(0, i, 0)] ++ innIx i j ++ [(1, i, j)] ++ [(2, i, j)] := by simp
            rw [e]
            exact J3
          · have c1 := fun e => c0 (decide_eq_true (congrArg V.int e))
            rw [ba] at c1
            have c2 : ¬ j &&& i = 0 := fun e => c1 (by rw [e]; rfl)
            refine ⟨us, _, ?_, rfl⟩
            rw [innIx_succ, if_neg c2, List.append_nil]
            exact J1
        · rintro σ F ⟨us, v5, J1, rfl⟩
          refine ⟨us, _, _, ?_, rfl⟩
          rw [outIx_succ]
          rw [List.append_assoc] at J1
          exact J1
      · rintro σ G ⟨ts, v3, v4, I1, rfl⟩
        walk_at "rd"
        exact k G q ts I1.sm I1.at_ I1.al I1.fr
    · walk_at "rd"
      intro t0 ht0
      have I0 : Same H (upd H t0 (.tup [.int 0, .int 0, .int 0])) := (Same.refl H).new ht0
      have a0 : A2 (TupN (upd H t0 (.tup [.int 0, .int 0, .int 0]))) [t0] [(0, 0, 0)] := .cons upd_same .nil
      generalize upd H t0 (.tup [.int 0, .int 0, .int 0]) = H0 at I0 a0 ⊢
      walk_at "rd"
      intro t1 ht1
      have I1 : Same H (upd H0 t1 (.tup [.int 1, .int 0, .int 0])) := I0.new ht1
      have a1 : A2 (TupN (upd H0 t1 (.tup [.int 1, .int 0, .int 0]))) [t0, t1] [(0, 0, 0), (1, 0, 0)] := (a0.up ((Same.refl _).new ht1)).app (.cons upd_same .nil)
      generalize upd H0 t1 (.tup [.int 1, .int 0, .int 0]) = H1 at I1 a1 ⊢
      walk_at "rd"
      intro t2 ht2
      have I2 : Same H (upd H1 t2 (.tup [.int 2, .int 0, .int 0])) := I1.new ht2
      have a2 : A2 (TupN (upd H1 t2 (.tup [.int 2, .int 0, .int 0]))) [t0, t1, t2] [(0, 0, 0), (1, 0, 0), (2, 0, 0)] := (a1.up ((Same.refl _).new ht2)).app (.cons upd_same .nil)
      generalize upd H1 t2 (.tup [.int 2, .int 0, .int 0]) = H2 at I2 a2 ⊢
      walk_at "rd"
      intro q hq
      exact k _ q [t0, t1, t2] (I2.new hq) upd_same (a2.up ((Same.refl _).new hq)) (I2.free hq)
/-! ### k49: the cases as the law tells them -/
def CaseAt (ys : List Str) (G : Hp) (t : Addr) (c : Nat × Nat × Nat) : Prop := ∃ t1 t2, G t = some (.tup [.str (stN c.1), .ref t1, .ref t2]) ∧ G t1 = some (.tup ((subN ys c.2.1).map V.str)) ∧ G t2 = some (.tup ((subN ys c.2.2).map V.str))
theorem CaseAt.same {ys : List Str} {G G' : Hp} {t : Addr} {c : Nat × Nat × Nat} (e : Same G G') (h : CaseAt ys G t c) : CaseAt ys G' t c := by
  obtain ⟨t1, t2, h1, h2, h3⟩ := h
  exact ⟨t1, t2, e _ _ h1, e _ _ h2, e _ _ h3⟩
theorem CaseAt.set {ys : List Str} {G : Hp} {t D : Addr} {c : Nat × Nat × Nat} {xs : List V} {o : HO} (hD : G D = some (.lst xs)) (h : CaseAt ys G t c) : CaseAt ys (upd G D o) t c := by
  have n : ∀ {x l}, G x = some (.tup l) → x ≠ D := fun {x l} h e => by rw [e, hD] at h; cases h
  obtain ⟨t1, t2, h1, h2, h3⟩ := h
  exact ⟨t1, t2, upd_oth (n h1) h1, upd_oth (n h2) h2, upd_oth (n h3) h3⟩
theorem CaseAt.tup {ys : List Str} {G G' : Hp} {t : Addr} {c : Nat × Nat × Nat} (e : TupK G G') (h : CaseAt ys G t c) : CaseAt ys G' t c := by
  obtain ⟨t1, t2, h1, h2, h3⟩ := h
  exact ⟨t1, t2, e _ _ h1, e _ _ h2, e _ _ h3⟩
theorem CaseAt.dp {K : PySem.W.Frag} {ys : List Str} {G : Hp} {t : Addr} {c : Nat × Nat × Nat} (h : CaseAt ys G t c) : Dp K G (.ref t) (caseD ys c) := by
  obtain ⟨t1, t2, h1, h2, h3⟩ := h
  exact .tup (SqT.of h1) (.cons (.str _) (.cons (.tup (SqT.of h2) (dp_strs _)) (.cons (.tup (SqT.of h3) (dp_strs _)) .nil)))
theorem cases_dp {K : PySem.W.Frag} {ys : List Str} {G : Hp} : ∀ {ts : List Addr} {cs : List (Nat × Nat × Nat)}, A2 (CaseAt ys G) ts cs → DpAll K G (ts.map V.ref) (cs.map (caseD ys))
  | _, _, .nil => .nil
  | _, _, .cons h q => .cons h.dp (cases_dp q)
theorem cases_alike (ys : List Str) (cs : List (Nat × Nat × Nat)) : PySem.W.AllAlike (cs.map (caseD ys)) := PySem.W.AllAlike.of fun b b' => alike_case ys b b'
theorem cases_sortable (ys : List Str) (cs : List (Nat × Nat × Nat)) : PySem.W.Sortable (cs.map (caseD ys)) := PySem.W.Sortable.tuples fun b => ⟨_, _, rfl⟩
theorem case_depth (ys : List Str) (c : Nat × Nat × Nat) : (caseD ys c).depth ≤ 2 := by
  unfold caseD
  simp [PyData.depth, PyData.depthAll, depth_strs]
theorem cases_depth (ys : List Str) (cs : List (Nat × Nat × Nat)) : ∀ d ∈ cs.map (caseD ys), d.depth ≤ 60 := fun d h => by
  obtain ⟨c, _, rfl⟩ := List.mem_map.mp h
  exact Nat.le_trans (case_depth ys c) (by decide)
def spDue (K : PySem.W.Frag) : Sp := fun vs H Q _ => ∃ (p : Addr) (ws : List Str), vs = [.ref p] ∧ H p = some (.lst (ws.map V.str)) ∧ ws.length ≤ 4 ∧ ws.Nodup ∧ (∀ z ∈ ws, asc z) ∧
  ∀ (H' : Hp) (q : Addr) (ys : List Str) (xs : List V), Same H H' → ys.Perm ws → PyProof.Rows.sortedS ys = true → H' q = some (.lst xs) → (∀ H2, TupK H' H2 → DpAll K H2 xs (sortD ((dueIx (2 ^ ws.length)).map (caseD ys)))) → H q = none → Q (.ref q) H'
theorem subN_asc {ws : List Str} (h : ∀ z ∈ ws, asc z) {b : Nat} : ∀ z ∈ subN ws b, asc z := fun z hz => by
  obtain ⟨k, hk, _⟩ := mem_subN.mp hz
  exact h z (List.mem_of_getElem? hk)
theorem flat_strs : ∀ xs : List Str, (xs.map V.str).all flatV = true
  | [] => rfl
  | x :: r => by
    rw [List.map_cons, List.all_cons, flat_strs r]; rfl
theorem inV_strsD {z : Str} {l : List Str} : inV (.str z) (l.map V.str) = decide (z ∈ l) := by
  unfold inV
  rw [List.any_map]
  cases h : decide (z ∈ l) with
  | true =>
    rw [List.any_eq_true]
    exact ⟨z, of_decide_eq_true h, by show eqV (.str z) (.str z) = true; simp [eqV]⟩
  | false =>
    rw [List.any_eq_false]
    intro y hy e
    have e : eqV (.str y) (.str z) = true := e
    simp [eqV] at e
    subst e
    exact of_decide_eq_false h hy
def dueN (m i j : Nat) : List (Nat × Nat × Nat) := (List.range m).map (fun o => (0, o, 0)) ++ (List.range i).flatMap (fun o => innIx o m) ++ (((List.range m).filter fun h => h &&& i = 0).take j).flatMap fun h => [(1, i, h), (2, i, h)]
theorem dueN_zero {m i : Nat} : dueN m i 0 = (List.range m).map (fun o => (0, o, 0)) ++ (List.range i).flatMap (fun o => innIx o m) := by
  unfold dueN
  simp
theorem dueN_all {m i : Nat} : dueN m i ((List.range m).filter fun h => h &&& i = 0).length = (List.range m).map (fun o => (0, o, 0)) ++ (List.range (i + 1)).flatMap (fun o => innIx o m) := by
  unfold dueN
  rw [List.take_length, List.range_succ, List.flatMap_append, List.append_assoc]
  congr 1
  simp [innIx]
theorem dueN_step {m i j h : Nat} (hh : ((List.range m).filter fun h => decide (h &&& i = 0))[j]? = some h) : dueN m i (j + 1) = dueN m i j ++ [(1, i, h), (2, i, h)] := by
  unfold dueN
  rw [List.take_add_one, hh, List.flatMap_append, ← List.append_assoc]
  simp
theorem inn_len (m : Nat) : ∀ i, ((List.range i).flatMap fun o => innIx o m).length ≤ i * (2 * m)
  | 0 => Nat.zero_le _
  | i + 1 => by
    rw [List.range_succ, List.flatMap_append, List.length_append, Nat.succ_mul]
    have := inn_len m i
    have := innIx_len i m
    rw [show ([i].flatMap fun o => innIx o m) = innIx i m by simp]
    omega
theorem dueN_len {m i j : Nat} (hm : m ≤ 16) (hi : i ≤ m) : (dueN m i j).length ≤ 600 := by
  unfold dueN
  have h1 := inn_len m i
  have h2 : i * (2 * m) ≤ 16 * 32 := Nat.mul_le_mul (by omega) (by omega)
  have h3 : ((((List.range m).filter fun h => h &&& i = 0).take j).flatMap fun h => [(1, i, h), (2, i, h)]).length ≤ 32 := by
    have : ∀ l : List Nat, (l.flatMap fun h => [(1, i, h), (2, i, h)]).length = 2 * l.length := fun l => by
      induction l with
      | nil => rfl
      | cons x r ih => rw [List.flatMap_cons, List.length_append, ih]; simp; omega
    rw [this, List.length_take]
    have := List.length_filter_le (fun h => decide (h &&& i = 0)) (List.range m)
    rw [List.length_range] at this
    omega
  rw [List.length_append, List.length_append, List.length_map, List.length_range]
  omega
theorem ok_law_due (T : Txt K mg a d) : FnOk P w K mg base CX0 2 a.law_due d.law_due ["_law_marks"] (spDue K) := by
  have G_law_subsets : FnOk P w K mg base CX0 1 a.law_subsets d.law_subsets ["_law_marks"] (spSubs K) := ok_law_subsets T
  refine T.law_due.ok sc_law_due (fun vs H Q E h => ?_) (fun cdv A outer s H vs Q E hr h => ?_)
  · obtain ⟨p, ws, rfl, _⟩ := h
    rfl
  · obtain ⟨p, ws, rfl, hp, l4, nd, as, k⟩ := h
    refine ⟨_, (pss_cons (ps_set (i := 1) sc_law_due.nd rfl (Or.inl rfl) (pe_call G_law_subsets (hr.mono (by decide)) (by rfl) T.g_law_subsets T.law_subsets.kp T.b_law_subsets .nil pass0 (pa_cons (pv 0) pa_nil)))
  (pss_cons (ps_setLc (i := 2) (own := [("_law_outer", 3)]) (tt := tYes) rfl sc_law_due.nd rfl rfl (sw_true rfl rfl rfl (by decide +kernel)) (pi_list (pv 1)) (blkOk_by (own := [("_law_outer", 3)]) (N := ["_law_marks", "_law_sets", "_law_found", "_law_outer", "_law_held", "_law_some", "_law_one"]) (sc := defScope s_law_due) (by decide +kernel)) (fun _ _ _ _ _ => (pg_name (i := 3) sc_law_due.nd rfl (Or.inl rfl))) (fun _ _ _ _ _ => pts_nil) (fun _ _ _ _ _ => (pe_tup (pa_cons pe_str (pa_cons (pv 3) (pa_cons (pe_tup pa_nil) pa_nil))))))
  (pss_cons (ps_for PassesOwn.never rfl (pi_list (pv 1)) (pg_name (i := 3) sc_law_due.nd rfl (Or.inr rfl))
  (pss_one (ps_for PassesOwn.never rfl (pi_list (pe_lc (own := [("_law_some", 5)]) rfl sc_law_due.nd (pi_list (pv 1)) (blkOk_by (own := [("_law_some", 5)]) (N := ["_law_marks", "_law_sets", "_law_found", "_law_outer", "_law_held", "_law_some", "_law_one"]) (sc := defScope s_law_due) (by decide +kernel)) (fun _ _ _ _ _ => (pg_name (i := 5) sc_law_due.nd rfl (Or.inl rfl))) (fun _ _ _ _ _ => (pts_one (pt_cmpR (op_eqDK (K := K) rfl hr.units) (pe_lc (own := [("_law_one", 6)]) rfl sc_law_due.nd (pi_tupK (K := K) rfl (pv 5)) (blkOk_by (own := [("_law_one", 6)]) (N := ["_law_marks", "_law_sets", "_law_found", "_law_outer", "_law_held", "_law_some", "_law_one"]) (sc := _) (by kernel_rfl)) (fun _ _ _ _ _ => (pg_name (i := 6) sc_law_due.nd rfl (Or.inl rfl))) (fun _ _ _ _ _ => (pts_one (pt_cmpR (op_inK (K := K) rfl) (pv 6) (pv 3) (by rfl)))) (fun _ _ _ _ _ => (pv 6))) (pe_lst pa_nil) (nomark _)))) (fun _ _ _ _ _ => (pv 5)))) (pg_name (i := 4) sc_law_due.nd rfl (Or.inl rfl))
  (pss_one (ps_set (i := 2) sc_law_due.nd rfl (Or.inl rfl) (pe_op op_cat (pv 2) (pe_lst (pa_cons (pe_tup (pa_cons pe_str (pa_cons (pv 3) (pa_cons (pv 4) pa_nil)))) (pa_cons (pe_tup (pa_cons pe_str (pa_cons (pv 3) (pa_cons (pv 4) pa_nil)))) pa_nil)))))))))
  (pss_one (ps_ret (pe_callB (cr_sortD hr.units) (by rfl) T.n_sorted (by decide +kernel) (pa_cons (pv 2) pa_nil))))))), ?_⟩
    dsimp only [cxOf]
    walk_at "rd"
    intro H1 q0 ys ts s1 pm so hq0 hs hqn
    have nd' : ys.Nodup := pm.symm.nodup nd
    have as' : ∀ z ∈ ys, asc z := fun z hz => as z (pm.mem_iff.mp hz)
    have ly : ys.length ≤ 4 := by rw [pm.length_eq]; exact l4
    have e16 := pow_le ly
    have hsl := hs.1
    rw [← pm.length_eq] at k
    walk_at "rd"
    refine ⟨⟨_, SqL.of hq0⟩, fun D hD => ?_⟩
    refine lc_list (xs := ts.map V.ref) (fun j G => ∃ us : List Addr, Same H1 G ∧ G D = some (.lst (us.map V.ref)) ∧ A2 (CaseAt ys G) us ((List.range j).map fun o => (0, o, 0))) ?_ ?_ ?_ ?_
    · exact ⟨[], (Same.refl _).new hD, upd_same, .nil⟩
    · rintro j G _ ⟨us, s2, _⟩
      exact SqL.of (s2 _ _ hq0)
    · rintro j x G hx ⟨us, s2, hG, ha⟩
      obtain ⟨t, ht, rfl⟩ := map_at hx
      have lj : j < ts.length := (List.getElem?_eq_some_iff.mp ht).1
      have l5 := ha.len
      rw [List.length_map, List.length_range] at l5
      refine ⟨rfl, ?_⟩
      walk_at "rd"
      intro e he
      have s3 : Same H1 (upd G e (.tup [])) := s2.new he
      have e3 := upd_same (H := G) (a := e) (o := .tup [])
      have hG3 := upd_old (o := .tup []) hG he
      have ha3 := ha.imp fun _ _ r => r.same ((Same.refl G).new (o := .tup []) he)
      have et3 := s3 _ _ (hs.2 j t ht)
      generalize upd G e (.tup []) = G3 at s3 e3 hG3 ha3 et3 ⊢
      walk_at "rd"
      intro u hu
      have s4 : Same H1 (upd G3 u (.tup [.str "none", .ref t, .ref e])) := s3.new hu
      have hG4 := upd_old (o := .tup [.str "none", .ref t, .ref e]) hG3 hu
      have ha4 := (ha3.imp fun _ _ r => r.same ((Same.refl G3).new (o := .tup [.str "none", .ref t, .ref e]) hu)).app (.cons (⟨t, e, upd_same, upd_old et3 hu, by rw [subN_zero]; exact upd_old e3 hu⟩ : CaseAt ys _ u (0, j, 0)) .nil)
      generalize upd G3 u (.tup [.str "none", .ref t, .ref e]) = G4 at s4 hG4 ha4 ⊢
      refine ⟨_, hG4, by rw [List.length_map, sizeLine_eq]; omega, us ++ [u], s4.frsh hD, by rw [upd_same, List.map_append]; rfl, ?_⟩
      rw [List.range_succ, List.map_append]
      exact ha4.imp fun _ _ r => r.set hG4
    · rintro G ⟨us, s2, hG, ha⟩
      rw [List.length_map] at ha
      have hq2 := s2 _ _ hq0
      walk_at "rd"
      refine ⟨⟨_, SqL.of hq2⟩, ?_⟩
      refine for_list (xs := ts.map V.ref) (fun i σ F => ∃ q us v3 v4 v5 v6, Same H1 F ∧ F q = some (.lst (us.map V.ref)) ∧ A2 (CaseAt ys F) us ((List.range ts.length).map (fun o => (0, o, 0)) ++ (List.range i).flatMap fun o => innIx o ts.length) ∧ σ = [some (.ref p), some (.ref q0), some (.ref q), v3, v4, v5, v6]) ?_ ?_ ?_ ?_
      · exact ⟨D, us, none, none, none, none, s2, hG, by rw [show ((List.range 0).flatMap fun o => innIx o ts.length) = [] from rfl, List.append_nil]; exact ha, rfl⟩
      · rintro i σ F _ ⟨q, us, v3, v4, v5, v6, s3, _⟩
        exact SqL.of (s3 _ _ hq0)
      · rintro i x σ F hx ⟨q, us, v3, v4, v5, v6, s3, hF, hf, rfl⟩
        obtain ⟨t, ht, rfl⟩ := map_at hx
        have li : i < ts.length := (List.getElem?_eq_some_iff.mp ht).1
        have hq3 := s3 _ _ hq0
        walk_at "rd"
        refine ⟨⟨_, SqL.of hq3⟩, fun D2 hD2 => ?_⟩
        refine lc_list (xs := ts.map V.ref) (fun j F2 => ∃ hs : List Addr, Same F F2 ∧ F2 D2 = some (.lst (hs.map V.ref)) ∧ A2 (fun u h => ts[h]? = some u) hs ((List.range j).filter fun h => h &&& i = 0)) ?_ ?_ ?_ ?_
        · exact ⟨[], (Same.refl _).new hD2, upd_same, .nil⟩
        · rintro j F2 _ ⟨hs, s4, _⟩
          exact SqL.of (s4 _ _ hq3)
        · rintro j x F2 hx ⟨us2, s4, hD3, hf2⟩
          obtain ⟨u, hu, rfl⟩ := map_at hx
          have lj : j < ts.length := (List.getElem?_eq_some_iff.mp hu).1
          have hu3 := s4 _ _ (s3 _ _ (hs.2 j u hu))
          have ht3 := s4 _ _ (s3 _ _ (hs.2 i t ht))
          refine ⟨rfl, ?_⟩
          walk_at "rd"
          refine ⟨⟨_, SqT.of hu3⟩, fun D4 hD4 => ?_⟩
          refine lc_tup (xs := (subN ys j).map V.str) (fun l F4 => Same F2 F4 ∧ F4 D4 = some (.lst ((((subN ys j).take l).filter fun z => decide (z ∈ subN ys i)).map V.str))) ?_ ?_ ?_ ?_
          · exact ⟨(Same.refl _).new hD4, upd_same⟩
          · rintro l F4 _ ⟨s5, _⟩
            exact SqT.of (s5 _ _ hu3)
          · rintro l x F4 hx ⟨s5, h5⟩
            obtain ⟨z, hz, rfl⟩ := map_at hx
            have ht5 := s5 _ _ ht3
            refine ⟨rfl, ?_⟩
            have lz : l < (subN ys j).length := (List.getElem?_eq_some_iff.mp hz).1
            have lz2 := subN_len (ws := ys) (b := j)
            have fz : (((subN ys j).take (l + 1)).filter fun z => decide (z ∈ subN ys i)) = (((subN ys j).take l).filter fun z => decide (z ∈ subN ys i)) ++ (if decide (z ∈ subN ys i) = true then [z] else []) := by
              rw [List.take_add_one, hz, List.filter_append]
              congr 1
              show ([z] : List Str).filter _ = _
              rw [List.filter_cons]
              rfl
            walk_at "rd"
            refine ⟨flat_strs _, _, rfl, ?_⟩
            rw [show (if false = true then !inV (V.str z) ((subN ys i).map V.str) else inV (V.str z) ((subN ys i).map V.str)) = inV (V.str z) ((subN ys i).map V.str) from rfl, inV_strsD]
            rw [fz]
            cases hb : decide (z ∈ subN ys i)
            · rw [if_neg (by simp : ¬ false = true), if_neg (by simp : ¬ false = true), List.append_nil]
              exact ⟨s5, h5⟩
            · rw [if_pos rfl, if_pos rfl]
              refine ⟨_, rfl, _, h5, ?_, s5.frsh hD4, by rw [upd_same, List.map_append]; rfl⟩
              rw [List.length_map, sizeLine_eq]
              have := List.length_filter_le (fun z => decide (z ∈ subN ys i)) ((subN ys j).take l)
              rw [List.length_take] at this
              omega
          · rintro F4 ⟨s5, h5⟩
            rw [List.length_map, List.take_length] at h5
            have hD5 := s5 _ _ hD3
            walk_at "rd"
            intro e he
            have s6 := s5.new (o := .lst []) he
            have e6 := upd_same (H := F4) (a := e) (o := .lst [])
            have h6 := upd_old (o := .lst []) h5 he
            have hD6 := upd_old (o := .lst []) hD5 he
            generalize upd F4 e (.lst []) = F6 at s6 e6 h6 hD6 ⊢
            have s7 := s4.trans s6
            have fr : ((List.range (j + 1)).filter fun h => decide (h &&& i = 0)) = ((List.range j).filter fun h => decide (h &&& i = 0)) ++ (if j &&& i = 0 then [j] else []) := by
              rw [List.range_succ, List.filter_append]
              congr 1
              by_cases h : j &&& i = 0
              · rw [if_pos h, List.filter_cons_of_pos (by simp [h])]; rfl
              · rw [if_neg h, List.filter_cons_of_neg (by simp [h])]; rfl
            have df := disj_iff nd' (h := j) (o := i) (by rw [← hsl]; exact lj)
            have l6 := hf2.len
            have l7 := List.length_filter_le (fun h => decide (h &&& i = 0)) (List.range j)
            rw [List.length_range] at l7
            rw [fr]
            generalize hfl : (subN ys j).filter (fun z => decide (z ∈ subN ys i)) = fl at h6 df
            have afl : ∀ z ∈ fl, asc z := fun z hz => by
              rw [← hfl] at hz
              exact subN_asc as' z (List.mem_filter.mp hz).1
            refine ⟨_, _, .lst (SqL.of h6) (dp_strs _), .lst (SqL.of e6) .nil, shaped_strs afl, by decide +kernel, _, rfl, ?_⟩
            have ev : PyData.eqv (.list (fl.map PyData.str)) (.list []) = fl.isEmpty := by
              show PyData.eqvAll _ [] = _
              rw [eqvAll_nil, List.isEmpty_map]
            rw [ev]
            cases fl with
            | nil =>
              rw [if_pos (df.mp rfl)]
              refine ⟨_, rfl, _, hD6, by rw [List.length_map, sizeLine_eq]; omega, us2 ++ [u], s7.frsh hD2, by rw [upd_same, List.map_append]; rfl, hf2.app (.cons hu .nil)⟩
            | cons z r =>
              rw [if_neg (fun e => by cases df.mpr e), List.append_nil]
              exact ⟨us2, s7, hD6, hf2⟩
        · rintro F2 ⟨us2, s4, hD3, hf2⟩
          rw [List.length_map] at hf2
          walk_at "rd"
          refine ⟨⟨_, SqL.of hD3⟩, ?_⟩
          refine for_list (xs := us2.map V.ref) (fun j σ F5 => ∃ q us v4 v5 v6, Same F2 F5 ∧ F5 q = some (.lst (us.map V.ref)) ∧ A2 (CaseAt ys F5) us (dueN ts.length i j) ∧ σ = [some (.ref p), some (.ref q0), some (.ref q), some (.ref t), v4, v5, v6]) ?_ ?_ ?_ ?_
          · refine ⟨q, us, v4, v5, v6, Same.refl _, s4 _ _ hF, ?_, rfl⟩
            rw [dueN_zero]
            exact hf.imp fun _ _ r => r.same s4
          · rintro j σ F5 _ ⟨q, us, v4, v5, v6, s5, _⟩
            exact SqL.of (s5 _ _ hD3)
          · rintro j x σ F5 hx ⟨q, us, v4, v5, v6, s5, hF5, hf5, rfl⟩
            obtain ⟨u, hu, rfl⟩ := map_at hx
            obtain ⟨h, hh, hth⟩ := hf2.at hu
            have s6 := s4.trans s5
            have hu5 := s6 _ _ (s3 _ _ (hs.2 h u hth))
            have ht5 := s6 _ _ (s3 _ _ (hs.2 i t ht))
            have l8 := hf5.len
            have l9 := dueN_len (j := j) (show ts.length ≤ 16 by omega) (show i ≤ ts.length by omega)
            walk_at "rd"
            intro r1 hr1
            have s8 : Same F5 (upd F5 r1 (.tup [.str "open", .ref t, .ref u])) := (Same.refl _).new hr1
            have c1 : CaseAt ys (upd F5 r1 (.tup [.str "open", .ref t, .ref u])) r1 (1, i, h) := ⟨t, u, upd_same, s8 _ _ ht5, s8 _ _ hu5⟩
            generalize upd F5 r1 (.tup [.str "open", .ref t, .ref u]) = F6 at s8 c1 ⊢
            walk_at "rd"
            intro r2 hr2
            have s9 := s8.new (o := .tup [.str "doomed", .ref t, .ref u]) hr2
            have c2 : CaseAt ys (upd F6 r2 (.tup [.str "doomed", .ref t, .ref u])) r2 (2, i, h) := ⟨t, u, upd_same, s9 _ _ ht5, s9 _ _ hu5⟩
            have c3 := c1.same ((Same.refl F6).new (o := .tup [.str "doomed", .ref t, .ref u]) hr2)
            generalize upd F6 r2 (.tup [.str "doomed", .ref t, .ref u]) = F7 at s9 c2 c3 ⊢
            walk_at "rd"
            intro r3 hr3
            have s10 := s9.new (o := .lst [.ref r1, .ref r2]) hr3
            have e10 := upd_same (H := F7) (a := r3) (o := .lst [.ref r1, .ref r2])
            have c4 := c2.same ((Same.refl F7).new (o := .lst [.ref r1, .ref r2]) hr3)
            have c5 := c3.same ((Same.refl F7).new (o := .lst [.ref r1, .ref r2]) hr3)
            generalize upd F7 r3 (.lst [.ref r1, .ref r2]) = F8 at s10 e10 c4 c5 ⊢
            have hF8 := s10 _ _ hF5
            have lz : (us.map V.ref).length + ([V.ref r1, V.ref r2]).length ≤ sizeLine := by
              rw [List.length_map, sizeLine_eq]
              simp only [List.length_cons, List.length_nil]
              omega
            walk_at "rd"
            intro r4 hr4
            have s11 := (Same.refl F8).new (o := .lst (us.map V.ref ++ [.ref r1, .ref r2])) hr4
            refine ⟨r4, us ++ [r1, r2], _, _, _, (s5.trans s10).trans s11, by rw [upd_same, List.map_append]; rfl, ?_, rfl⟩
            rw [dueN_step hh]
            exact (hf5.imp fun _ _ r => r.same (s10.trans s11)).app (.cons (c5.same s11) (.cons (c4.same s11) .nil))
          · rintro σ F5 ⟨q, us, v4, v5, v6, s5, hF5, hf5, rfl⟩
            refine ⟨q, us, _, _, _, _, (s3.trans s4).trans s5, hF5, ?_, rfl⟩
            rw [List.length_map, hf2.len, dueN_all] at hf5
            exact hf5
      · rintro σ F ⟨q, us, v3, v4, v5, v6, s3, hF, hf, rfl⟩
        rw [List.length_map] at hf
        refine ⟨_, rfl, call_sortD (SqL.of hF) (fun H2 e => cases_dp (hf.imp fun _ _ r => r.tup e)) (cases_alike _ _) (cases_sortable _ _) (cases_depth _ _) fun r xs hr hx lx => ?_⟩
        have s4 := s1.trans s3
        rw [hsl] at hx
        exact k _ r ys xs (s4.new hr) pm so upd_same (fun H2 e => hx H2 ((TupK.of_same ((Same.refl _).new hr)).trans e)) (s4.free hr)
/-! ### k49: entry_cases -/
theorem putK_len1 (c : List (Key × V)) (k : Key) (x : V) : (putK c k x).length ≤ c.length + 1 := by
  unfold putK
  split
  · rw [List.length_map]; omega
  · rw [List.length_append]; exact Nat.le_refl _
theorem bits_lt {b : Bool} {m : Nat} {c : Nat × Nat × Nat} (h : c ∈ bitsIx b m) : c.1 < 3 := by
  unfold bitsIx casesIx at h
  cases b
  · simp only [Bool.false_eq_true, if_false, List.mem_flatMap, List.mem_cons] at h
    obtain ⟨o, _, h | ⟨k, _, h | h | h⟩⟩ := h
    · subst h; exact Nat.zero_lt_succ _
    · subst h; show 1 < 3; decide
    · subst h; show 2 < 3; decide
    · cases h
  · simp only [if_true, List.mem_cons] at h
    rcases h with rfl | rfl | rfl | h
    · decide
    · decide
    · decide
    · cases h
theorem bits_len {b : Bool} {m : Nat} (h : m ≤ 16) : (bitsIx b m).length ≤ 600 := by
  unfold bitsIx
  cases b
  · have h1 := outIx_len m m
    have h2 : m * (2 * m + 1) ≤ 16 * 33 := Nat.mul_le_mul (by omega) (by omega)
    show (outIx m m).length ≤ 600
    omega
  · show 3 ≤ 600
    decide
theorem st_at {n : Nat} (h : n < 3) : atI [V.str "none", V.str "open", V.str "doomed"] (n : Int) = some (.str (stN n)) := by
  match n, h with
  | 0, _ => exact atI_nat rfl
  | 1, _ => exact atI_nat rfl
  | 2, _ => exact atI_nat rfl
theorem bit_ne (l m : Nat) : (!decide (V.int (Builtin.bitAnd ((2 ^ l : Nat) : Int) (m : Int)) = V.int 0)) = m.testBit l := by
  rw [bitAnd_nat]
  cases h : m.testBit l with
  | false =>
    have : 2 ^ l &&& m = 0 := Nat.eq_of_testBit_eq fun i => by
      rw [Nat.testBit_and, Nat.testBit_two_pow, Nat.zero_testBit]
      by_cases e : l = i
      · subst e; rw [h, Bool.and_false]
      · rw [decide_eq_false e, Bool.false_and]
    rw [this]; rfl
  | true =>
    rw [Bool.not_eq_true', decide_eq_false_iff_not]
    intro z
    have z := V.int.inj z
    have z : 2 ^ l &&& m = 0 := by omega
    have t := congrArg (fun n : Nat => n.testBit l) z
    simp only [Nat.testBit_and, Nat.testBit_two_pow_self, h, Nat.zero_testBit] at t
    cases t
theorem sorted_uniq {xs ys : List Str} (p : xs.Perm ys) (h1 : PyProof.Rows.sortedS xs = true) (h2 : PyProof.Rows.sortedS ys = true) : xs = ys :=
  (sortT_of p h1).trans (sortT_of (.refl ys) h2).symm
def spCases (K : PySem.W.Frag) : Sp := fun vs H Q _ => ∃ (p : Addr) (b : Bool) (ws : List Str), vs = [.ref p, .bl b] ∧ H p = some (.lst (ws.map V.str)) ∧ ws.length ≤ 4 ∧ ws.Nodup ∧
  ∀ (H' : Hp) (q : Addr) (ys : List Str) (xs : List V), Same H H' → ys.Perm ws → PyProof.Rows.sortedS ys = true → H' q = some (.lst xs) → (∀ H2, TupK H' H2 → DpAll K H2 xs (sortD ((bitsIx b (2 ^ ws.length)).map (caseD ys)))) → xs.length = (bitsIx b (2 ^ ws.length)).length → H q = none → Q (.ref q) H'
theorem ok_entry_cases (T : Txt K mg a d) : FnOk P w K mg base CX0 2 a.entry_cases d.entry_cases ["records", "silent"] (spCases K) := by
  have G_entry_bits : FnOk P w K mg base CX0 1 a.entry_bits d.entry_bits ["many", "is_silent"] spBits := ok_entry_bits T
  refine funD_ok T.entry_cases sc_entry_cases (fun vs H Q E h => ?_) (fun cdv A outer s H vs Q E hr h => ?_)
  · obtain ⟨p, b, ws, rfl, _⟩ := h
    rfl
  · obtain ⟨p, b, ws, rfl, hp, l4, nd, k⟩ := h
    refine ⟨_, (pss_cons (ps_set (i := 2) sc_entry_cases.nd rfl (Or.inr rfl) (pe_callB cr_sortedS (by rfl) T.n_sorted (by decide +kernel) (pa_cons (pv 0) pa_nil)))
  (pss_cons (ps_set (i := 3) sc_entry_cases.nd rfl (Or.inr rfl) (pe_dc (own := [("k", 9), ("record", 10)]) (tt := tYes) rfl sc_entry_cases.nd (pi_enum (by rfl) T.n_enumerate (pa_cons (pv 2) pa_nil)) (blkOk_by (own := [("k", 9), ("record", 10)]) (N := ["records", "silent", "looked", "own", "found", "state", "outer", "held", "sets", "k", "record", "bits"]) (sc := defScope s_entry_cases) (by decide +kernel)) (fun _ _ _ _ _ => (pg_tupK (K := K) 2 rfl rfl (pgs_cons (pg_name (i := 9) sc_entry_cases.nd rfl (Or.inl rfl)) (pgs_cons (pg_name (i := 10) sc_entry_cases.nd rfl (Or.inl rfl)) pgs_nil)))) (fun _ _ _ _ _ => pts_nil) (fun _ _ _ _ _ => (pv 10)) (fun _ _ _ _ _ => (pe_op op_shl pe_int (pv 9)))))
  (pss_cons (ps_set (i := 4) sc_entry_cases.nd rfl (Or.inl rfl) (pe_lst pa_nil))
  (pss_cons (ps_for PassesOwn.never rfl (pi_list (pe_call G_entry_bits (hr.mono (by decide)) (by rfl) T.g_entry_bits T.entry_bits.kp T.b_entry_bits .nil pass0 (pa_cons (pe_callB call_len_seq (by rfl) T.n_len PySem.boot_len (pa_cons (pv 2) pa_nil)) (pa_cons (pv 1) pa_nil)))) (pg_tup rfl (pgs_cons (pg_name (i := 5) sc_entry_cases.nd rfl (Or.inl rfl)) (pgs_cons (pg_name (i := 6) sc_entry_cases.nd rfl (Or.inl rfl)) (pgs_cons (pg_name (i := 7) sc_entry_cases.nd rfl (Or.inl rfl)) pgs_nil))))
  (pss_cons (ps_setLc (i := 8) (own := [("bits", 11)]) (tt := tYes) rfl sc_entry_cases.nd rfl rfl (sw_true rfl rfl rfl (by decide +kernel)) (pi_tup (pe_tup (pa_cons (pv 6) (pa_cons (pv 7) pa_nil)))) (blkOk_by (own := [("bits", 11)]) (N := ["records", "silent", "looked", "own", "found", "state", "outer", "held", "sets", "k", "record", "bits"]) (sc := defScope s_entry_cases) (by decide +kernel)) (fun _ _ _ _ _ => (pg_name (i := 11) sc_entry_cases.nd rfl (Or.inr rfl))) (fun _ _ _ _ _ => pts_nil) (fun _ _ _ _ _ => (pe_callTy (call_tuple_ofK (K := K) rfl) (by rfl) T.n_tuple (by decide +kernel) (pa_cons (pe_lc (own := [("record", 10)]) rfl sc_entry_cases.nd (pi_listK (K := K) rfl (pv 2)) (blkOk_by (own := [("record", 10)]) (N := ["records", "silent", "looked", "own", "found", "state", "outer", "held", "sets", "k", "record", "bits"]) (sc := _) (by kernel_rfl)) (fun _ _ _ _ _ => (pg_name (i := 10) sc_entry_cases.nd rfl (Or.inl rfl))) (fun _ _ _ _ _ => (pts_one (pt_cmpR op_ne (pe_op op_and (pe_dget (hu_of hr) (pv 3) (pv 10) (fun _ _ => rfl)) (pv 11)) pe_int (nomark _)))) (fun _ _ _ _ _ => (pv 10))) pa_nil))))
  (pss_one (ps_expr (pe_bm PySem.F.plainAttrs_list PySem.F.slot_list_append PySem.F.type_list_append mt_append (pv 4) (pa_cons (pe_tup (pa_cons (pe_ix ix_tup (pe_tup (pa_cons pe_str (pa_cons pe_str (pa_cons pe_str pa_nil)))) (pv 5) (fun _ _ => rfl)) (pa_cons (pe_ix ix_list (pv 8) pe_int (fun _ _ => rfl)) (pa_cons (pe_ix ix_list (pv 8) pe_int (fun _ _ => rfl)) pa_nil)))) pa_nil))))))
  (pss_one (ps_ret (pe_callB (cr_sortD hr.units) (by rfl) T.n_sorted (by decide +kernel) (pa_cons (pv 4) pa_nil)))))))), ?_⟩
    dsimp only [cxOf]
    have lz : ws.length < 64 := by omega
    walk_at "rd"
    intro ys r pm so hr
    have s1 : Same H (upd H r (.lst (ys.map V.str))) := (Same.refl H).new hr
    have er := upd_same (H := H) (a := r) (o := .lst (ys.map V.str))
    generalize upd H r (.lst (ys.map V.str)) = H1 at s1 er ⊢
    have nd' : ys.Nodup := pm.symm.nodup nd
    have ly : ys.length ≤ 4 := by rw [pm.length_eq]; exact l4
    rw [← pm.length_eq] at k
    walk_at "rd"
    intro D hD
    refine dc_it (walk_enum (xs := ys.map V.str)) (fun i G => ∃ kvs, Same H1 G ∧ G D = some (.dK kvs) ∧ kvs.length ≤ i ∧ ∀ j z, j < i → ys[j]? = some z → valV kvs (Sum.inr z) = some (.int ((2 ^ j : Nat) : Int))) ?_ ?_ ?_ ?_
    · exact ⟨[], (Same.refl _).new hD, upd_same, Nat.le_refl _, fun j z h => by omega⟩
    · rintro i G _ ⟨kvs, s2, _⟩
      exact SqL.of (s2 _ _ er)
    · rintro i x G G' hi ⟨kvs, s2, hG, lk, hk⟩ ⟨T1, x1, x2, rfl, hT, rfl, h1, h2⟩
      cases h1
      obtain ⟨z, hz, rfl⟩ := map_at h2
      rw [List.length_map] at hi
      have nD : T1 ≠ D := Ne.symm (ne_of_none hG hT)
      walk_at "rd"
      have e1 := shl_one i
      refine ⟨⟨by omega, by omega, by decide⟩, kvs, Sum.inr z, rfl, upd_old hG hT, ?_, putK kvs (Sum.inr z) (.int (1 * 2 ^ ((i : Int)).toNat)), (s2.new hT).frsh hD, upd_same, ?_, fun j y hj hy => ?_⟩
      · rw [sizeLine_eq]; omega
      · have := putK_len1 kvs (Sum.inr z) (.int (1 * 2 ^ ((i : Int)).toNat))
        omega
      · rw [valV_put, e1]
        by_cases h : j = i
        · subst h
          rw [hz] at hy
          cases hy
          rw [if_pos rfl]
        · rw [if_neg (fun e => by
            cases e
            exact h (nod_inj nd' hy hz))]
          exact hk j y (by omega) hy
    · rintro G ⟨kvs, s2, hG, lk, hk⟩
      walk_at "rd"
      intro q hq
      have s3 := s2.new (o := .lst []) hq
      have s4 : Same H (upd G q (.lst [])) := s1.trans s3
      have nrq : r ≠ q := ne_of_none (s2 _ _ er) hq
      have hqn : H q = none := (s1.trans s2).free hq
      have e3 := upd_same (H := G) (a := q) (o := .lst [])
      have hG3 := upd_old (o := .lst []) hG hq
      have er3 := s3 _ _ er
      generalize upd G q (.lst []) = G3 at s3 s4 e3 hG3 er3 ⊢
      have ly' : (ys.map V.str).length ≤ 4 := by rw [List.length_map]; exact ly
      walk_at "rd"
      intro G4 bq ts s5 hb ha hbn
      rw [List.length_map] at ha
      have e5 := s5 _ _ e3
      have hG5 := s5 _ _ hG3
      have er5 := s5 _ _ er3
      have s6 := s4.trans s5
      have nbq : bq ≠ q := Ne.symm (ne_of_none e3 hbn)
      walk_at "rd"
      refine ⟨⟨_, SqL.of hb⟩, ?_⟩
      refine for_list (xs := ts.map V.ref) (fun i σ F => ∃ us v5 v6 v7 v8 v9 v10 v11, Kp (fun b => b = q) G4 F ∧ F q = some (.lst (us.map V.ref)) ∧ A2 (CaseAt ys F) us ((bitsIx b (2 ^ ys.length)).take i) ∧ σ = [some (.ref p), some (.bl b), some (.ref r), some (.ref D), some (.ref q), v5, v6, v7, v8, v9, v10, v11]) ?_ ?_ ?_ ?_
      · exact ⟨[], none, none, none, none, none, none, none, Kp.refl, e5, .nil, rfl⟩
      · rintro i σ F _ ⟨us, v5, v6, v7, v8, v9, v10, v11, kF, _⟩
        exact SqL.of (kF _ _ hb nbq)
      · rintro i x σ F hx ⟨us, v5, v6, v7, v8, v9, v10, v11, kF, hF, hf, rfl⟩
        obtain ⟨t, ht, rfl⟩ := map_at hx
        obtain ⟨c, hc, hT⟩ := ha.at ht
        have c3 := bits_lt (List.mem_of_getElem? hc)
        have l8 := hf.len
        have l9 := bits_len (b := b) (pow_le ly)
        rw [List.length_take] at l8
        have nq : ∀ {x l}, G4 x = some (.tup l) → x ≠ q := fun {x l} h e => by rw [e, e5] at h; cases h
        have tF := kF _ _ hT (nq hT)
        have DF := kF _ _ hG5 (fun e => by rw [e, e5] at hG5; cases hG5)
        have rF := kF _ _ er5 nrq
        walk_at "rd"
        intro tt htt
        have u1 : Same F (upd F tt (.tup [.int (c.2.1 : Int), .int (c.2.2 : Int)])) := (Same.refl _).new htt
        have ett := upd_same (H := F) (a := tt) (o := .tup [.int (c.2.1 : Int), .int (c.2.2 : Int)])
        generalize upd F tt (.tup [.int (c.2.1 : Int), .int (c.2.2 : Int)]) = F1 at u1 ett ⊢
        refine ⟨_, rfl, ⟨_, SqT.of ett⟩, fun D3 hD3 => ?_⟩
        refine lc_tup (xs := [c.2.1, c.2.2].map fun n : Nat => V.int (n : Int)) (fun j F2 => ∃ ws : List Addr, Same F1 F2 ∧ F2 D3 = some (.lst (ws.map V.ref)) ∧ A2 (fun u m => F2 u = some (.tup ((subN ys m).map V.str))) ws ([c.2.1, c.2.2].take j)) ?_ ?_ ?_ ?_
        · exact ⟨[], (Same.refl _).new hD3, upd_same, .nil⟩
        · rintro j F2 _ ⟨ws, u2, _⟩
          exact SqT.of (u2 _ _ ett)
        · rintro j x F2 hx ⟨ws, u2, g2, a2⟩
          obtain ⟨m, hm, rfl⟩ := map_at hx
          have lj : j < 2 := (List.getElem?_eq_some_iff.mp hm).1
          have lw := a2.len
          rw [List.length_take] at lw
          have u3 := u1.trans u2
          have rF2 := u3 _ _ rF
          have DF2 := u3 _ _ DF
          refine ⟨rfl, ?_⟩
          walk_at "rd"
          refine ⟨⟨_, SqL.of rF2⟩, fun D4 hD4 => ?_⟩
          refine lc_list (xs := ys.map V.str) (fun l F4 => Same F2 F4 ∧ F4 D4 = some (.lst ((subN (ys.take l) m).map V.str))) ?_ ?_ ?_ ?_
          · exact ⟨(Same.refl _).new hD4, upd_same⟩
          · rintro l F4 _ ⟨u4, _⟩
            exact SqL.of (u4 _ _ rF2)
          · rintro l x F4 hx ⟨u4, g4⟩
            obtain ⟨z, hz, rfl⟩ := map_at hx
            have ll : l < ys.length := (List.getElem?_eq_some_iff.mp hz).1
            have lt : (ys.take l).length = l := by rw [List.length_take]; omega
            have ez : subN (ys.take (l + 1)) m = subN (ys.take l) m ++ (if m.testBit l then [z] else []) := by
              rw [List.take_add_one, hz]
              show subN (ys.take l ++ [z]) m = _
              rw [subN_snoc, lt]
            have DF4 := u4 _ _ DF2
            have dg : DGet F4 D (.str z) (some (.int ((2 ^ l : Nat) : Int))) := by
              rw [← hk l z (by rw [List.length_map]; exact ll) hz]
              exact DGet.k (k := Sum.inr z) DF4
            have bn := bit_ne l m
            have lsub := subN_len (ws := ys.take l) (b := m)
            refine ⟨rfl, ?_⟩
            walk_at "rd"
            rw [show (!decide ((fun i j => V.int (Builtin.bitAnd i j)) ((2 ^ l : Nat) : Int) (m : Int) = V.int 0)) = m.testBit l from bn, ez]
            cases m.testBit l
            · rw [if_neg (by simp : ¬ false = true), if_neg (by simp : ¬ false = true), List.append_nil]
              exact ⟨u4, g4⟩
            · rw [if_pos rfl, if_pos rfl]
              exact ⟨_, rfl, _, g4, by rw [List.length_map, sizeLine_eq]; omega, u4.frsh hD4, by rw [upd_same, List.map_append]; rfl⟩
          · rintro F4 ⟨u4, g4⟩
            rw [List.length_map, List.take_length] at g4
            have D34 := u4 _ _ g2
            walk_at "rd"
            refine .inl ⟨SqL.of g4, fun w hw => ?_⟩
            have u5 := u4.new (o := .tup ((subN ys m).map V.str)) hw
            have ew := upd_same (H := F4) (a := w) (o := .tup ((subN ys m).map V.str))
            have D35 := upd_old (o := .tup ((subN ys m).map V.str)) D34 hw
            generalize upd F4 w (.tup ((subN ys m).map V.str)) = F5 at u5 ew D35 ⊢
            have n3 : ∀ {x l}, F5 x = some (.tup l) → x ≠ D3 := fun {x l} h e => by rw [e, D35] at h; cases h
            refine ⟨_, D35, by rw [List.length_map, sizeLine_eq]; omega, ws ++ [w], (u2.trans u5).frsh hD3, by rw [upd_same, List.map_append]; rfl, ?_⟩
            rw [List.take_add_one, hm]
            exact (a2.imp fun _ _ r => upd_oth (n3 (u5 _ _ r)) (u5 _ _ r)).app (.cons (upd_oth (n3 ew) ew) .nil)
        · rintro F2 ⟨ws, u2, g2, a2⟩
          have u3 := u1.trans u2
          cases a2 with
          | @cons w1 _ ws _ h1 a2 =>
          cases a2 with
          | @cons w2 _ ws _ h2 a2 =>
          cases a2 with
          | nil =>
          have qF2 := u3 _ _ hF
          have ix0 : atI [V.ref w1, V.ref w2] 0 = some (.ref w1) := (atI_nat rfl : atI [V.ref w1, V.ref w2] ((0 : Nat) : Int) = _)
          have ix1 : atI [V.ref w1, V.ref w2] 1 = some (.ref w2) := (atI_nat rfl : atI [V.ref w1, V.ref w2] ((1 : Nat) : Int) = _)
          have ixs := st_at c3
          have tq : tyV K "list" (.ref q) F2 := tyV_lst (SqL.of qF2)
          walk_at "rd"
          intro tn htn
          have u4 := u3.new (o := .tup [.str "none", .str "open", .str "doomed"]) htn
          have etn := upd_same (H := F2) (a := tn) (o := .tup [.str "none", .str "open", .str "doomed"])
          have s4' := (Same.refl F2).new (o := .tup [.str "none", .str "open", .str "doomed"]) htn
          have h1' := s4' _ _ h1
          have h2' := s4' _ _ h2
          have g2' := s4' _ _ g2
          have qF4 := s4' _ _ qF2
          generalize upd F2 tn (.tup [.str "none", .str "open", .str "doomed"]) = F4 at u4 etn h1' h2' g2' qF4 ⊢
          refine ⟨_, rfl, ⟨_, _, _, _, rfl, rfl, SqT.of etn, ixs, ?_⟩⟩
          refine ⟨_, rfl, ⟨_, _, _, _, rfl, rfl, SqL.of g2', ix0, ?_⟩⟩
          refine ⟨_, rfl, ⟨_, _, _, _, rfl, rfl, SqL.of g2', ix1, ?_⟩⟩
          refine ⟨sz_le rfl, fun t3 ht3 => ?_⟩
          have u5 := u4.new (o := .tup [.str (stN c.1), .ref w1, .ref w2]) ht3
          have s5' := (Same.refl F4).new (o := .tup [.str (stN c.1), .ref w1, .ref w2]) ht3
          have cc : CaseAt ys (upd F4 t3 (.tup [.str (stN c.1), .ref w1, .ref w2])) t3 c := ⟨w1, w2, upd_same, s5' _ _ h1', s5' _ _ h2'⟩
          have qF5 := s5' _ _ qF4
          generalize upd F4 t3 (.tup [.str (stN c.1), .ref w1, .ref w2]) = F5 at u5 cc qF5 ⊢
          refine ⟨_, _, _, rfl, rfl, qF5, by rw [List.length_map, sizeLine_eq]; omega, ?_⟩
          refine ⟨us ++ [t3], _, _, _, _, _, _, _, (kF.trans (Kp.of_same u5)).set1, by rw [upd_same, List.map_append]; rfl, ?_, rfl⟩
          rw [List.take_add_one, hc]
          exact ((hf.imp fun _ _ r => (r.same u5).set qF5)).app (.cons (cc.set qF5) .nil)
      · rintro σ F ⟨us, v5, v6, v7, v8, v9, v10, v11, kF, hF, hf, rfl⟩
        rw [List.length_map, ha.len, List.take_length] at hf
        have l8 := hf.len
        refine ⟨_, rfl, call_sortD (SqL.of hF) (fun H2 e => cases_dp (hf.imp fun _ _ r => r.tup e)) (cases_alike _ _) (cases_sortable _ _) (cases_depth _ _) fun r2 xs hr2 hx lx => ?_⟩
        rw [List.length_map] at lx
        have s7 : Same H F := kF.same s6 fun c e => e ▸ hqn
        exact k _ r2 ys xs (s7.new hr2) pm so upd_same (fun H2 e => hx H2 ((TupK.of_same ((Same.refl _).new hr2)).trans e)) (by omega) (s7.free hr2)
/-! ### k49: the law -/
def spLaw (K : PySem.W.Frag) : Sp := fun vs H Q _ => ∃ (p : Addr) (ns : List Int), vs = [.ref p] ∧ SqL K H p (ns.map V.int) ∧ ns.length ≤ 63 ∧ ∀ H', Q (.bl true) H'
theorem bd_cases0 (T : Txt K mg a d) : ∃ ds, Vals [V.bl false] ds ∧ Binds K d.entry_cases ["records", "silent"] ds :=
  T.entry_cases.binds0 (ps := ["records", "silent"]) 1 (by simp) rfl (fun D doc pm an cdv ct us ks hu hk => match us, hu, ks, hk with | [_], _, [_], _ => ⟨_, _, _, _, _, _, rfl, rfl, rfl⟩)
theorem kb_cases1 (T : Txt K mg a d) : ∃ mv : List Value, KBn K d.entry_cases ["records", "silent"] 1 ["silent"] (fun us ws => us ++ ws) (fun vs zs => vs ++ zs) :=
  T.entry_cases.kbinds0 (ps := ["records", "silent"]) 1 ["silent"] [] (fun us _ ws => us ++ ws) (by simp) (by simp) (fun a _ b => a.append b)
    (fun D doc pm an cdv ct us mv ws hu hm hw => match us, hu, mv, hm, ws, hw with | [_], _, [], _, [_], _ => rfl)
theorem kb_cases2 (T : Txt K mg a d) : ∃ mv : List Value, KBn K d.entry_cases ["records", "silent"] 0 ["records", "silent"] (fun us ws => us ++ ws) (fun vs zs => vs ++ zs) :=
  T.entry_cases.kbinds0 (ps := ["records", "silent"]) 0 ["records", "silent"] [] (fun us _ ws => us ++ ws) (by simp) (by simp) (fun a _ b => a.append b)
    (fun D doc pm an cdv ct us mv ws hu hm hw => match us, hu, mv, hm, ws, hw with | [], _, [], _, [_, _], _ => rfl)
theorem sortD_perm (l : List PyData) : (sortD l).Perm l := List.mergeSort_perm l _
theorem sortD_eqv {ds es : List PyData} (h : ds.Perm es) (al : PySem.W.AllAlike ds) : PyData.eqvAll (sortD ds) (sortD es) = true := by
  have f : ∀ l : List PyData, (l.map fun d => (V.non, d)).map (·.2) = l := fun l => by rw [List.map_map]; exact List.map_id l
  have := sorted_eqv (bs := ds.map fun d => (V.non, d)) (cs := es.map fun d => (V.non, d)) (by rw [f, f]; exact h) (by rw [f]; exact al)
  rw [sortD_of, sortD_of, f, f] at this
  exact this
theorem lay_all : ∀ {l : List PyData}, (∀ d ∈ l, d.canLay0 = true) → PyData.canLayAll0 l = true
  | [], _ => rfl
  | d :: r, h => by
    show (d.canLay0 && PyData.canLayAll0 r) = true
    rw [h d List.mem_cons_self, lay_all fun x m => h x (List.mem_cons_of_mem _ m)]; rfl
theorem depth_all {n : Nat} : ∀ {l : List PyData}, (∀ d ∈ l, d.depth ≤ n) → PyData.depthAll l ≤ n
  | [], _ => Nat.zero_le _
  | d :: r, h => by
    show max d.depth (PyData.depthAll r) ≤ n
    have h1 := h d List.mem_cons_self
    have h2 := depth_all fun x m => h x (List.mem_cons_of_mem _ m)
    omega
theorem st_asc (n : Nat) : asc (stN n) := by
  match n with
  | 0 => show asc "none"; unfold asc; decide +kernel
  | 1 => show asc "open"; unfold asc; decide +kernel
  | n + 2 => show asc "doomed"; unfold asc; decide +kernel
theorem lay_case {ys : List Str} (h : ∀ z ∈ ys, asc z) (c : Nat × Nat × Nat) : (caseD ys c).canLay0 = true := by
  show (PyData.strOk _ && (PyData.canLayAll0 _ && (PyData.canLayAll0 _ && true))) = true
  rw [asc_ok (st_asc _), lay_strs (subN_asc h), lay_strs (subN_asc h)]; rfl
theorem shaped_cases {ys : List Str} (h : ∀ z ∈ ys, asc z) (cs : List (Nat × Nat × Nat)) : SeqAt.shaped (.list (sortD (cs.map (caseD ys)))) = true := by
  have h1 : PyData.canLayAll0 (sortD (cs.map (caseD ys))) = true := lay_all fun d m => by
    obtain ⟨c, _, rfl⟩ := List.mem_map.mp ((sortD_perm _).mem_iff.mp m)
    exact lay_case h c
  have h2 : PyData.depthAll (sortD (cs.map (caseD ys))) ≤ 2 := depth_all fun d m => by
    obtain ⟨c, _, rfl⟩ := List.mem_map.mp ((sortD_perm _).mem_iff.mp m)
    exact case_depth ys c
  show (PyData.canLayAll0 _ && decide (PyData.depthAll _ + 1 ≤ 64)) = true
  rw [h1, decide_eq_true (by omega)]; rfl
def few3 : List PyData := [.tuple [.str "doomed", .tuple [], .tuple []], .tuple [.str "none", .tuple [], .tuple []], .tuple [.str "open", .tuple [], .tuple []]]
theorem few_cases (ys : List Str) (m : Nat) : (bitsIx true m).map (caseD ys) = [.tuple [.str "none", .tuple [], .tuple []], .tuple [.str "open", .tuple [], .tuple []], .tuple [.str "doomed", .tuple [], .tuple []]] := by
  show [caseD ys (0, 0, 0), caseD ys (1, 0, 0), caseD ys (2, 0, 0)] = _
  unfold caseD
  rw [subN_zero]; rfl
theorem few_sorted : sortD few3 = few3 := by
  refine List.mergeSort_of_pairwise ?_
  unfold few3
  refine .cons (fun x m => ?_) (.cons (fun x m => ?_) (.cons (fun x m => nomatch m) .nil))
  · rcases List.mem_cons.mp m with rfl | m
    · decide +kernel
    · rcases List.mem_cons.mp m with rfl | m
      · decide +kernel
      · cases m
  · rcases List.mem_cons.mp m with rfl | m
    · decide +kernel
    · cases m
theorem few_eqv (ys : List Str) (m : Nat) : PyData.eqvAll (sortD ((bitsIx true m).map (caseD ys))) few3 = true := by
  have p : ((bitsIx true m).map (caseD ys)).Perm few3 := by
    rw [few_cases]
    unfold few3
    exact (List.Perm.cons _ (List.Perm.swap _ _ _)).trans (List.Perm.swap _ _ _)
  have := sortD_eqv p (cases_alike _ _)
  rw [few_sorted] at this
  exact this
theorem ifF {p q : Prop} (h : q) : if false = true then p else q := by rw [if_neg (by simp)]; exact h
theorem ne_no {K : PySem.W.Frag} {H : Hp} {x y : V} {d e : PyData} {Q : VK} (h1 : Dp K H x d) (h2 : Dp K H y e) (s1 : SeqAt.shaped d = true) (s2 : SeqAt.shaped e = true) (ev : PyData.eqv d e = true) (q : Q (.bl false) H) : rNeD K x y H Q :=
  ⟨d, e, h1, h2, s1, s2, by rw [ev]; exact q⟩
theorem ne_strs {K : PySem.W.Frag} {H : Hp} {x y : Addr} {zs : List Str} {Q : VK} (h1 : H x = some (.lst (zs.map V.str))) (h2 : H y = some (.lst (zs.map V.str))) (as : ∀ z ∈ zs, asc z) (q : Q (.bl false) H) : rNeD K (.ref x) (.ref y) H Q :=
  ne_no (.lst (SqL.of h1) (dp_strs zs)) (.lst (SqL.of h2) (dp_strs zs)) (shaped_strs as) (shaped_strs as) (SeqAt.eqv_refl _ (lay_strs as)) q
theorem isi_list {K : PySem.W.Frag} {H : Hp} {t : Addr} {xs : List V} {Q : VK} (h : H t = some (.lst xs)) (q : Q (.bl true) H) : rIsi K [.ref t, .ty "list"] H Q :=
  ⟨_, _, _, _, true, rfl, ClsV.ty _, .base (.lst h), kit_ty (by decide +kernel), q⟩
/-- the two tell the same -/
theorem ne_cases {K : PySem.W.Frag} {H : Hp} {x y : Addr} {xs ds : List V} {ys : List Str} {m : Nat} {Q : VK} (h1 : H x = some (.lst xs)) (h2 : H y = some (.lst ds)) (d1 : DpAll K H xs (sortD ((bitsIx false m).map (caseD ys)))) (d2 : DpAll K H ds (sortD ((dueIx m).map (caseD ys))))
    (as : ∀ z ∈ ys, asc z) (q : Q (.bl false) H) : rNeD K (.ref x) (.ref y) H Q :=
  ne_no (.lst (SqL.of h1) d1) (.lst (SqL.of h2) d2) (shaped_cases as _) (shaped_cases as _) (sortD_eqv ((perm_ix m).map (caseD ys)) (cases_alike _ _)) q
theorem ok_law (T : Txt K mg a d) : FnOk P w K mg base CX0 5 a.law d.law ["_law_script"] (spLaw K) := by
  have G_law_bag : FnOk P w K mg base CX0 1 a.law_bag d.law_bag ["_law_script", "_law_at"] (spBag K) := ok_law_bag T
  have G_law_draw : FnOk P w K mg base CX0 1 a.law_draw d.law_draw ["_law_bag_here", "_law_many"] spDrawB := ok_law_draw T
  have G_law_of : FnOk P w K mg base CX0 2 a.law_of d.law_of ["_law_bag_here", "_law_some"] (spOf K) := ok_law_of T
  have G_law_names : FnOk P w K mg base CX0 2 a.law_names d.law_names ["_law_bag_here", "_law_many"] spNames := ok_law_names T
  have G_law_due : FnOk P w K mg base CX0 2 a.law_due d.law_due ["_law_marks"] (spDue K) := ok_law_due T
  have G_entry_cases : FnOk P w K mg base CX0 2 a.entry_cases d.entry_cases ["records", "silent"] (spCases K) := ok_entry_cases T
  obtain ⟨_, vd_cases, bd_cases⟩ := bd_cases0 T
  obtain ⟨_, kb1⟩ := kb_cases1 T
  obtain ⟨_, kb2⟩ := kb_cases2 T
  refine T.law.ok sc_law (fun vs H Q E h => ?_) (fun cdv A outer s H vs Q E hr h => ?_)
  · obtain ⟨p, ns, rfl, _⟩ := h
    rfl
  · obtain ⟨sa, ns, rfl, hS, hl, k⟩ := h
    refine ⟨_, (pss_cons (ps_for PassesOwn.never rfl (pi_range1 (by rfl) T.n_range (pa_cons (pe_callB (call_max2 rfl) (by rfl) T.n_max (by decide +kernel) (pa_cons pe_int (pa_cons (pe_callB (call_min2 rfl) (by rfl) T.n_min (by decide +kernel) (pa_cons pe_int (pa_cons (pe_callB call_len_seq (by rfl) T.n_len PySem.boot_len (pa_cons (pv 0) pa_nil)) pa_nil))) pa_nil))) pa_nil)) (pg_name (i := 1) sc_law.nd rfl (Or.inl rfl))
  (pss_cons (ps_set (i := 2) sc_law.nd rfl (Or.inl rfl) (pe_call G_law_bag (hr.mono (by decide)) (by rfl) T.g_law_bag T.law_bag.kp T.b_law_bag .nil pass0 (pa_cons (pv 0) (pa_cons (pv 1) pa_nil))))
  (pss_cons (ps_set (i := 3) sc_law.nd rfl (Or.inl rfl) (pe_call G_law_names (hr.mono (by decide)) (by rfl) T.g_law_names T.law_names.kp T.b_law_names .nil pass0 (pa_cons (pv 2) (pa_cons (pe_call G_law_of (hr.mono (by decide)) (by rfl) T.g_law_of T.law_of.kp T.b_law_of .nil pass0 (pa_cons (pv 2) (pa_cons (pe_lst (pa_cons pe_int (pa_cons pe_int (pa_cons pe_int (pa_cons pe_int (pa_cons pe_int (pa_cons pe_int (pa_cons pe_int pa_nil)))))))) pa_nil))) pa_nil))))
  (C8.pss_cut (ps_if (pt_cmpR op_eq (pe_call G_law_draw (hr.mono (by decide)) (by rfl) T.g_law_draw T.law_draw.kp T.b_law_draw .nil pass0 (pa_cons (pv 2) (pa_cons pe_int pa_nil))) pe_int (nomark _)) (pss_one (ps_expr (pe_bm0 PySem.F.plainAttrs_list PySem.F.slot_list_reverse PySem.F.type_list_reverse mt_reverse (pv 3)))) pss_nil)
  (pss_cons (ps_par (i := 4) (j := 5) rfl sc_law.nd rfl rfl (by decide) rfl rfl (pa_cons (pe_callTy call_list_of (by rfl) T.n_list (by decide +kernel) (pa_cons (pv 3) pa_nil)) (pa_cons (pe_call G_law_due (hr.mono (by decide)) (by rfl) T.g_law_due T.law_due.kp T.b_law_due .nil pass0 (pa_cons (pv 3) pa_nil)) pa_nil)) (by rfl))
  (pss_cons (ps_par (i := 6) (j := 7) rfl sc_law.nd rfl rfl (by decide) rfl rfl (pa_cons (pe_call G_entry_cases (hr.mono (by decide)) (by rfl) T.g_entry_cases T.entry_cases.kp bd_cases vd_cases pass0 (pa_cons (pv 4) pa_nil)) (pa_cons (pe_callN0 G_entry_cases (hr.mono (by decide)) (by rfl) T.g_entry_cases T.entry_cases.kp kb2 pass0 (pk_cons (pv 4) (pk_cons pe_bl pk_nil))) pa_nil)) (by rfl))
  (pss_cons (ps_if (PW.pt (pw_or (pt_not (pt_val (pe_callB call_isi (by rfl) T.n_isinstance (by decide +kernel) (pa_cons (pv 6) (pa_cons (pe_bltn (v := .ty "list") (u := .type "list") (by rfl) T.n_list (by decide +kernel) rfl) pa_nil))))) (pw_or (pt_cmpR (op_neD hr.units) (pv 6) (pv 5) (nomark _)) (pw_or (pt_cmpR (op_neD hr.units) (pe_callN G_entry_cases (hr.mono (by decide)) (by rfl) T.g_entry_cases T.entry_cases.kp kb1 pass0 (pa_cons (pv 4) pa_nil) (pk_cons pe_bl pk_nil)) (pv 5) (nomark _)) (pw_or1 (pt_cmpR (op_neD hr.units) (pv 4) (pv 3) (nomark _))))))) (pss_one (ps_ret pe_bl)) pss_nil)
  (pss_cons (ps_if (PW.pt (pw_or (pt_not (pt_val (pe_callB call_isi (by rfl) T.n_isinstance (by decide +kernel) (pa_cons (pv 7) (pa_cons (pe_bltn (v := .ty "list") (u := .type "list") (by rfl) T.n_list (by decide +kernel) rfl) pa_nil))))) (pw_or1 (pt_cmpR (op_neD hr.units) (pv 7) (pe_lst (pa_cons (pe_tup (pa_cons pe_str (pa_cons (pe_tup pa_nil) (pa_cons (pe_tup pa_nil) pa_nil)))) (pa_cons (pe_tup (pa_cons pe_str (pa_cons (pe_tup pa_nil) (pa_cons (pe_tup pa_nil) pa_nil)))) (pa_cons (pe_tup (pa_cons pe_str (pa_cons (pe_tup pa_nil) (pa_cons (pe_tup pa_nil) pa_nil)))) pa_nil)))) (nomark _))))) (pss_one (ps_ret pe_bl)) pss_nil)
  (pss_cons (ps_expr (pe_bm0 PySem.F.plainAttrs_list PySem.F.slot_list_clear PySem.F.type_list_clear mt_clear (pv 6)))
  (pss_cons (ps_expr (pe_bm PySem.F.plainAttrs_list PySem.F.slot_list_append PySem.F.type_list_append mt_append (pv 7) (pa_cons (pe_tup (pa_cons pe_str (pa_cons (pe_tup pa_nil) (pa_cons (pe_tup pa_nil) pa_nil)))) pa_nil)))
  (pss_one (ps_if (PW.pt (pw_or (pt_cmpR (op_neD hr.units) (pe_call G_entry_cases (hr.mono (by decide)) (by rfl) T.g_entry_cases T.entry_cases.kp bd_cases vd_cases pass0 (pa_cons (pv 4) pa_nil)) (pv 5) (nomark _)) (pw_or (pt_cmpR op_ne (pe_callB call_len_seq (by rfl) T.n_len PySem.boot_len (pa_cons (pe_callN G_entry_cases (hr.mono (by decide)) (by rfl) T.g_entry_cases T.entry_cases.kp kb1 pass0 (pa_cons (pv 4) pa_nil) (pk_cons pe_bl pk_nil)) pa_nil)) pe_int (nomark _)) (pw_or1 (pt_cmpR (op_neD hr.units) (pv 4) (pv 3) (nomark _)))))) (pss_one (ps_ret pe_bl)) pss_nil))))))))))))
  (pss_one (ps_ret pe_bl))), ?_⟩
    dsimp only [cxOf]
    walk_at "rd"
    refine for_range (fun i σ H1 => i ≤ 63 ∧ Same H H1 ∧ ∃ v1 v2 v3 v4 v5 v6 v7, σ = [some (.ref sa), v1, v2, v3, v4, v5, v6, v7]) ?_ ?_ ?_
    · exact ⟨by omega, Same.refl H, _, _, _, _, _, _, _, rfl⟩
    · rintro i σ H1 hi ⟨h12, s1, v1, v2, v3, v4, v5, v6, v7, rfl⟩
      have hi12 : i < 63 := by revert hi; split <;> split <;> omega
      rw [Int.zero_add]
      refine ⟨_, rfl, _, rfl, sa, ns, i, rfl, s1.seq hS, by omega, fun p o hp ho => ?_⟩
      have s2 : Same H (upd H1 p o) := s1.new hp
      have hp2 := upd_same (H := H1) (a := p) (o := o)
      have np : H p = none := s1.free hp
      generalize upd H1 p o = H2 at s2 hp2 ⊢
      walk_at "rd"
      intro q0 hq0
      have s3 := s2.new (o := .lst [.int 0, .int 1, .int 1, .int 2, .int 2, .int 3, .int 4]) hq0
      have hp3 := upd_old (o := .lst [.int 0, .int 1, .int 1, .int 2, .int 2, .int 3, .int 4]) hp2 hq0
      have hq3 := upd_same (H := H2) (a := q0) (o := .lst [.int 0, .int 1, .int 1, .int 2, .int 2, .int 3, .int 4])
      have nqp := Ne.symm (ne_of_none hp2 hq0)
      generalize upd H2 q0 (.lst [.int 0, .int 1, .int 1, .int 2, .int 2, .int 3, .int 4]) = H3 at s3 hp3 hq3 ⊢
      refine ⟨p, q0, _, 0, o, rfl, nqp, hp3, ho, by decide, hq3, by decide, by decide, fun j v o1 hj ho1 => ?_⟩
      have s4 : Same H (upd H3 p o1) := s3.frsh np
      have hp4 := upd_same (H := H3) (a := p) (o := o1)
      generalize upd H3 p o1 = H4 at s4 hp4 ⊢
      obtain ⟨n, hn, rfl⟩ : ∃ n : Nat, n ≤ 4 ∧ v = .int (n : Int) := by
        match j, hj with
        | 0, hj => cases hj; exact ⟨0, by decide, rfl⟩
        | 1, hj => cases hj; exact ⟨1, by decide, rfl⟩
        | 2, hj => cases hj; exact ⟨1, by decide, rfl⟩
        | 3, hj => cases hj; exact ⟨2, by decide, rfl⟩
        | 4, hj => cases hj; exact ⟨2, by decide, rfl⟩
        | 5, hj => cases hj; exact ⟨3, by decide, rfl⟩
        | 6, hj => cases hj; exact ⟨4, by decide, rfl⟩
      refine ⟨p, n, 1, o1, rfl, hn, hp4, ho1, by decide, fun H5 q1 ws o2 k5 hp5 ho2 hq5 nd lw as hqn => ?_⟩
      have s5 : Same H H5 := k5.same s4 fun c e => e ▸ np
      have nqp1 : q1 ≠ p := Ne.symm (ne_of_none hp4 hqn)
      have hqn : H q1 = none := s4.free hqn
      refine ⟨fun σ' H' => ∃ (_ : Unit) (zs : List Str), Same H H' ∧ H' q1 = some (.lst (zs.map V.str)) ∧ zs.Nodup ∧ zs.length ≤ 4 ∧ (∀ z ∈ zs, asc z) ∧ σ' = [some (.ref sa), some (.int (i : Int)), some (.ref p), some (.ref q1), v4, v5, v6, v7], ?_, ?_⟩
      · walk_at "rd"
        intro r1 o3 r10 r11 ho3
        have hq6 := upd_oth (o := o3) nqp1 hq5
        have s6 : Same H (upd H5 p o3) := s5.frsh np
        generalize upd H5 p o3 = H6 at s6 hq6 ⊢
        walk_at "rd"
        refine ite2 (fun c0 => ?_) (fun c0 => ?_)
        · walk_at "rd"
          exact ⟨(), ws.reverse, s6.frsh hqn, by rw [upd_same, List.map_reverse], (List.reverse_perm ws).nodup_iff.mpr nd, by rw [List.length_reverse]; omega, fun z hz => as z (List.mem_reverse.mp hz), rfl⟩
        · exact ⟨(), ws, s6, hq6, nd, by omega, as, rfl⟩
      · rintro σ' H6 ⟨_, zs, s6, hq6, nd6, l6, as6, rfl⟩
        walk_at "rd"
        intro g1 hg1
        have s7 : Same H (upd H6 g1 (.lst (zs.map V.str))) := s6.new hg1
        have hg7 := upd_same (H := H6) (a := g1) (o := .lst (zs.map V.str))
        have hq7 := upd_old (o := .lst (zs.map V.str)) hq6 hg1
        generalize upd H6 g1 (.lst (zs.map V.str)) = H7 at s7 hg7 hq7 ⊢
        refine ⟨_, rfl, q1, zs, rfl, hq7, l6, nd6, as6, fun H8 dq ys xs s8 pm so hd8 hdp hdn => ?_⟩
        have as8 : ∀ z ∈ ys, asc z := fun z hz => as6 z (pm.mem_iff.mp hz)
        have hg8 := s8 _ _ hg7
        have hq8 := s8 _ _ hq7
        have s8 := s7.trans s8
        refine ⟨_, _, rfl, ?_⟩
        refine ⟨_, rfl, g1, false, zs, rfl, hg8, l6, nd6, fun H9 tq ys9 xs9 s9 pm9 so9 hd9 hdp9 lx9 hdn9 => ?_⟩
        obtain rfl := (sorted_uniq (pm9.trans pm.symm) so9 so).symm
        have hdd9 := s9 _ _ hd8
        have hg9 := s9 _ _ hg8
        have hq9 := s9 _ _ hq8
        have ngt : g1 ≠ tq := ne_of_none hg8 hdn9
        have nqt : q1 ≠ tq := ne_of_none hq8 hdn9
        have tqn : H tq = none := s8.free hdn9
        have ntd : tq ≠ dq := Ne.symm (ne_of_none hd8 hdn9)
        have tk9 : TupK H8 H9 := TupK.of_same s9
        have s9 := s8.trans s9
        refine ⟨_, rfl, rfl, rfl, g1, true, zs, rfl, hg9, l6, nd6, fun H10 fq ys10 xs10 s10 pm10 so10 hd10 hdp10 lx10 hdn10 => ?_⟩
        obtain rfl := (sorted_uniq (pm10.trans pm.symm) so10 so).symm
        refine ⟨_, _, rfl, ?_⟩
        have hdd10 := s10 _ _ hdd9
        have htq10 := s10 _ _ hd9
        have hg10 := s10 _ _ hg9
        have hq10 := s10 _ _ hq9
        have ngf : g1 ≠ fq := ne_of_none hg9 hdn10
        have nqf : q1 ≠ fq := ne_of_none hq9 hdn10
        have fqn : H fq = none := s9.free hdn10
        have nft : fq ≠ tq := Ne.symm (ne_of_none hd9 hdn10)
        have nfd : fq ≠ dq := Ne.symm (ne_of_none hdd9 hdn10)
        have tk10 : TupK H9 H10 := TupK.of_same s10
        have s11 := s9.trans s10
        have hdpA : ∀ H2, TupK H10 H2 → DpAll K H2 xs (sortD ((dueIx (2 ^ zs.length)).map (caseD ys))) := fun H2 e => hdp H2 (tk9.trans (tk10.trans e))
        have hdp9A : ∀ H2, TupK H10 H2 → DpAll K H2 xs9 (sortD ((bitsIx false (2 ^ zs.length)).map (caseD ys))) := fun H2 e => hdp9 H2 (tk10.trans e)
        refine ⟨_, rfl, _, _, _, _, true, rfl, ClsV.ty _, .base (.lst htq10), kit_ty (by decide +kernel), true, rfl, ifF ?_⟩
        refine ⟨_, rfl, _, rfl, ne_cases htq10 hdd10 (hdp9A _ fun _ _ h => h) (hdpA _ fun _ _ h => h) as8 ⟨false, rfl, ifF ?_⟩⟩
        refine ⟨_, rfl, rfl, rfl, g1, false, zs, rfl, hg10, l6, nd6, fun H11 aq ys11 xs11 e11 pm11 so11 hd11 hdp11 lx11 hdn11 => ?_⟩
        obtain rfl := (sorted_uniq (pm11.trans pm.symm) so11 so).symm
        refine ⟨_, rfl, ne_cases hd11 (e11 _ _ hdd10) (hdp11 _ fun _ _ h => h) (hdpA _ (TupK.of_same e11)) as8 ⟨false, rfl, ifF ?_⟩⟩
        refine ⟨_, rfl, _, rfl, ne_strs (e11 _ _ hg10) (e11 _ _ hq10) as6 ⟨false, rfl, ?_⟩⟩
        refine ifF ?_
        have hfq11 := e11 _ _ hd10
        have hg11 := e11 _ _ hg10
        have hq11 := e11 _ _ hq10
        have hdd11 := e11 _ _ hdd10
        have htq11 := e11 _ _ htq10
        have tk11 : TupK H10 H11 := TupK.of_same e11
        have s12 := s11.trans e11
        refine ⟨_, rfl, _, _, _, _, true, rfl, ClsV.ty _, .base (.lst hfq11), kit_ty (by decide +kernel), true, rfl, ifF ?_⟩
        walk_at "rd"
        intro a00 h00
        have z00 := (Same.refl H11).new (o := .tup []) h00
        have w00 := upd_same (H := H11) (a := a00) (o := .tup [])
        generalize upd H11 a00 (.tup []) = J00 at z00 w00 ⊢
        walk_at "rd"
        intro a01 h01
        have z01 := (Same.refl J00).new (o := .tup []) h01
        have w01 := upd_same (H := J00) (a := a01) (o := .tup [])
        generalize upd J00 a01 (.tup []) = J01 at z01 w01 ⊢
        walk_at "rd"
        intro a02 h02
        have z02 := (Same.refl J01).new (o := (.tup [.str "doomed", .ref a00, .ref a01])) h02
        have w02 := upd_same (H := J01) (a := a02) (o := (.tup [.str "doomed", .ref a00, .ref a01]))
        generalize upd J01 a02 (.tup [.str "doomed", .ref a00, .ref a01]) = J02 at z02 w02 ⊢
        walk_at "rd"
        intro a10 h10
        have z10 := (Same.refl J02).new (o := .tup []) h10
        have w10 := upd_same (H := J02) (a := a10) (o := .tup [])
        generalize upd J02 a10 (.tup []) = J10 at z10 w10 ⊢
        walk_at "rd"
        intro a11 h11
        have z11 := (Same.refl J10).new (o := .tup []) h11
        have w11 := upd_same (H := J10) (a := a11) (o := .tup [])
        generalize upd J10 a11 (.tup []) = J11 at z11 w11 ⊢
        walk_at "rd"
        intro a12 h12
        have z12 := (Same.refl J11).new (o := (.tup [.str "none", .ref a10, .ref a11])) h12
        have w12 := upd_same (H := J11) (a := a12) (o := (.tup [.str "none", .ref a10, .ref a11]))
        generalize upd J11 a12 (.tup [.str "none", .ref a10, .ref a11]) = J12 at z12 w12 ⊢
        walk_at "rd"
        intro a20 h20
        have z20 := (Same.refl J12).new (o := .tup []) h20
        have w20 := upd_same (H := J12) (a := a20) (o := .tup [])
        generalize upd J12 a20 (.tup []) = J20 at z20 w20 ⊢
        walk_at "rd"
        intro a21 h21
        have z21 := (Same.refl J20).new (o := .tup []) h21
        have w21 := upd_same (H := J20) (a := a21) (o := .tup [])
        generalize upd J20 a21 (.tup []) = J21 at z21 w21 ⊢
        walk_at "rd"
        intro a22 h22
        have z22 := (Same.refl J21).new (o := (.tup [.str "open", .ref a20, .ref a21])) h22
        have w22 := upd_same (H := J21) (a := a22) (o := (.tup [.str "open", .ref a20, .ref a21]))
        generalize upd J21 a22 (.tup [.str "open", .ref a20, .ref a21]) = J22 at z22 w22 ⊢
        walk_at "rd"
        intro a3 h3
        have z3 := (Same.refl J22).new (o := .lst [.ref a02, .ref a12, .ref a22]) h3
        have w3 := upd_same (H := J22) (a := a3) (o := .lst [.ref a02, .ref a12, .ref a22])
        generalize upd J22 a3 (.lst [.ref a02, .ref a12, .ref a22]) = J3 at z3 w3 ⊢
        have c3 := z3
        have c22 := z22.trans c3
        have c21 := z21.trans c22
        have c20 := z20.trans c21
        have c12 := z12.trans c20
        have c11 := z11.trans c12
        have c10 := z10.trans c11
        have c02 := z02.trans c10
        have c01 := z01.trans c02
        have c00 := z00.trans c01
        have x00 := c01 _ _ w00
        have x01 := c02 _ _ w01
        have x02 := c10 _ _ w02
        have x10 := c11 _ _ w10
        have x11 := c12 _ _ w11
        have x12 := c20 _ _ w12
        have x20 := c21 _ _ w20
        have x21 := c22 _ _ w21
        have x22 := c3 _ _ w22
        have hfq12 := c00 _ _ hfq11
        have tk12 : TupK H10 J3 := tk11.trans (TupK.of_same c00)
        have dlit : Dp K J3 (.ref a3) (.list few3) := .lst (SqL.of w3) (.cons (.tup (SqT.of x02) (.cons (.str _) (.cons (.tup (SqT.of x00) .nil) (.cons (.tup (SqT.of x01) .nil) .nil)))) (.cons (.tup (SqT.of x12) (.cons (.str _) (.cons (.tup (SqT.of x10) .nil) (.cons (.tup (SqT.of x11) .nil) .nil)))) (.cons (.tup (SqT.of x22) (.cons (.str _) (.cons (.tup (SqT.of x20) .nil) (.cons (.tup (SqT.of x21) .nil) .nil)))) .nil)))
        refine ne_no (.lst (SqL.of hfq12) (hdp10 _ tk12)) dlit (shaped_cases as8 _) (by decide +kernel) (few_eqv ys _) ⟨false, rfl, ?_⟩
        refine ifF ?_
        have htq12 := c00 _ _ htq11
        have s13 := s12.trans c00
        have hg12 := c00 _ _ hg11
        have hq12 := c00 _ _ hq11
        have hdd12 := c00 _ _ hdd11
        walk_at "rd"
        have s14 := s13.frsh (o := .lst []) tqn
        have tk13 := tk12.trans (TupK.set (o := .lst []) htq12)
        have hfq13 := upd_oth (o := .lst []) nft hfq12
        have hg13 := upd_oth (o := .lst []) ngt hg12
        have hq13 := upd_oth (o := .lst []) nqt hq12
        have hdd13 := upd_oth (o := .lst []) (Ne.symm ntd) hdd12
        generalize upd J3 tq (.lst []) = M0 at s14 tk13 hfq13 hg13 hq13 hdd13 ⊢
        walk_at "rd"
        intro b0 kb0
        have y0 := (Same.refl M0).new (o := .tup []) kb0
        generalize upd M0 b0 (.tup []) = M1 at y0 ⊢
        walk_at "rd"
        intro b1 kb1
        have y1 := (Same.refl M1).new (o := .tup []) kb1
        generalize upd M1 b1 (.tup []) = M2 at y1 ⊢
        walk_at "rd"
        intro b2 kb2
        have y2 := (Same.refl M2).new (o := .tup [.str "none", .ref b0, .ref b1]) kb2
        generalize upd M2 b2 (.tup [.str "none", .ref b0, .ref b1]) = M3 at y2 ⊢
        have y3 := y0.trans (y1.trans y2)
        have s15 := s14.trans y3
        have hfq14 := y3 _ _ hfq13
        have lx10 : xs10.length < sizeLine := by rw [lx10, sizeLine_eq]; have := bits_len (b := true) (pow_le l6); omega
        refine ⟨_, _, _, rfl, rfl, hfq14, lx10, ?_⟩
        have s16 := s15.frsh (o := .lst (xs10 ++ [.ref b2])) fqn
        have tk14 := (tk13.trans (TupK.of_same y3)).trans (TupK.set (o := .lst (xs10 ++ [.ref b2])) hfq14)
        have hg14 := upd_oth (o := .lst (xs10 ++ [.ref b2])) ngf (y3 _ _ hg13)
        have hq14 := upd_oth (o := .lst (xs10 ++ [.ref b2])) nqf (y3 _ _ hq13)
        have hdd14 := upd_oth (o := .lst (xs10 ++ [.ref b2])) (Ne.symm nfd) (y3 _ _ hdd13)
        generalize upd M3 fq (.lst (xs10 ++ [.ref b2])) = M4 at s16 tk14 hg14 hq14 hdd14 ⊢
        refine ⟨_, rfl, g1, false, zs, rfl, hg14, l6, nd6, fun H15 aq2 ys15 xs15 e15 pm15 so15 hd15 hdp15 lx15 hdn15 => ?_⟩
        obtain rfl := (sorted_uniq (pm15.trans pm.symm) so15 so).symm
        refine ⟨_, rfl, ne_cases hd15 (e15 _ _ hdd14) (hdp15 _ fun _ _ h => h) (hdpA _ (tk14.trans (TupK.of_same e15))) as8 ⟨false, rfl, ifF ?_⟩⟩
        have hg15 := e15 _ _ hg14
        have hq15 := e15 _ _ hq14
        refine ⟨_, rfl, rfl, rfl, g1, true, zs, rfl, hg15, l6, nd6, fun H16 aq3 ys16 xs16 e16 pm16 so16 hd16 hdp16 lx16 hdn16 => ?_⟩
        have s17 := (s16.trans e15).trans e16
        have l3 : (xs16.length : Int) = 3 := by rw [lx16]; rfl
        refine ⟨_, _, rfl, .inl (SqL.of hd16), ?_⟩
        rw [l3]
        refine ⟨rfl, false, rfl, ifF ?_⟩
        refine ⟨_, rfl, _, rfl, ne_strs (e16 _ _ hg15) (e16 _ _ hq15) as6 ⟨false, rfl, ?_⟩⟩
        refine ifF ?_
        exact ⟨by omega, s17, _, _, _, _, _, _, _, rfl⟩
    · rintro σ H1 ⟨h12, s1, v1, v2, v3, v4, v5, v6, v7, rfl⟩
      walk_at "rd"
      exact k H1
end
theorem all_mk {w : World} {K : PySem.W.Frag} {h : Heap} {mg : Str → Option Value} {fa : Addr} (X : K.In h) (G : h.Ns mainGlobals mg) (hfa : mg "law" = some (.ref fa))
    {t3 : Tok}
    {t5 : Tok}
    {t7 : Tok}
    {f8 : Addr}
    {od10 an10 : Option Addr} {sl10 : Array (Option Value)} {oc10 kV10 dc10 pm10 cd10 ct10 : Value}
    {f11 : Addr}
    {od13 an13 : Option Addr} {sl13 : Array (Option Value)} {oc13 kV13 dc13 pm13 cd13 ct13 : Value}
    {f14 : Addr}
    {od16 an16 : Option Addr} {sl16 : Array (Option Value)} {oc16 kV16 dc16 pm16 cd16 ct16 : Value}
    {f17 : Addr}
    {od19 an19 : Option Addr} {sl19 : Array (Option Value)} {oc19 kV19 dc19 pm19 cd19 ct19 : Value}
    {f20 : Addr}
    {od22 an22 : Option Addr} {sl22 : Array (Option Value)} {oc22 kV22 dc22 pm22 cd22 ct22 : Value}
    {f23 : Addr}
    {od25 an25 : Option Addr} {sl25 : Array (Option Value)} {oc25 kV25 dc25 pm25 cd25 ct25 : Value}
    {f26 : Addr}
    {od28 an28 : Option Addr} {sl28 : Array (Option Value)} {oc28 kV28 dc28 pm28 cd28 ct28 : Value}
    {f29 : Addr}
    {od31 an31 : Option Addr} {sl31 : Array (Option Value)} {oc31 dc31 pm31 cd31 ct31 : Value}
    {D32 : Addr}
    {od35 an35 : Option Addr} {sl35 : Array (Option Value)} {oc35 kV35 dc35 pm35 cd35 ct35 : Value}
    (z1 : PySem.W.nsIn K cStatics "thirdparty.any" = some none)
    (z2 : PySem.W.nsIn K mainGlobals "NONE" = some (some (.int 0 t3)))
    (z4 : PySem.W.nsIn K mainGlobals "OPEN" = some (some (.int 1 t5)))
    (z6 : PySem.W.nsIn K mainGlobals "DOOMED" = some (some (.int 2 t7)))
    (a9 : PySem.W.nsIn K mainGlobals "_law_bag" = some (some (.ref f8)))
    (l10 : K.lookup f8 = some ⟨oc10, od10, .func (PySem.W.fnOf "_law_bag" "_law_bag" (defArgs s_law_bag) (defBody s_law_bag) (defScope s_law_bag) .none kV10 dc10 pm10 an10 cd10 ct10), sl10⟩)
    (c10 : PySem.W.codeIn K cd10 "_law_bag" = true)
    (k10 : PySem.W.keepIn K (.ref f8) = true)
    (a12 : PySem.W.nsIn K mainGlobals "_law_draw" = some (some (.ref f11)))
    (l13 : K.lookup f11 = some ⟨oc13, od13, .func (PySem.W.fnOf "_law_draw" "_law_draw" (defArgs s_law_draw) (defBody s_law_draw) (defScope s_law_draw) .none kV13 dc13 pm13 an13 cd13 ct13), sl13⟩)
    (c13 : PySem.W.codeIn K cd13 "_law_draw" = true)
    (k13 : PySem.W.keepIn K (.ref f11) = true)
    (a15 : PySem.W.nsIn K mainGlobals "_law_of" = some (some (.ref f14)))
    (l16 : K.lookup f14 = some ⟨oc16, od16, .func (PySem.W.fnOf "_law_of" "_law_of" (defArgs s_law_of) (defBody s_law_of) (defScope s_law_of) .none kV16 dc16 pm16 an16 cd16 ct16), sl16⟩)
    (c16 : PySem.W.codeIn K cd16 "_law_of" = true)
    (k16 : PySem.W.keepIn K (.ref f14) = true)
    (a18 : PySem.W.nsIn K mainGlobals "_law_names" = some (some (.ref f17)))
    (l19 : K.lookup f17 = some ⟨oc19, od19, .func (PySem.W.fnOf "_law_names" "_law_names" (defArgs s_law_names) (defBody s_law_names) (defScope s_law_names) .none kV19 dc19 pm19 an19 cd19 ct19), sl19⟩)
    (c19 : PySem.W.codeIn K cd19 "_law_names" = true)
    (k19 : PySem.W.keepIn K (.ref f17) = true)
    (a21 : PySem.W.nsIn K mainGlobals "_law_subsets" = some (some (.ref f20)))
    (l22 : K.lookup f20 = some ⟨oc22, od22, .func (PySem.W.fnOf "_law_subsets" "_law_subsets" (defArgs s_law_subsets) (defBody s_law_subsets) (defScope s_law_subsets) .none kV22 dc22 pm22 an22 cd22 ct22), sl22⟩)
    (c22 : PySem.W.codeIn K cd22 "_law_subsets" = true)
    (k22 : PySem.W.keepIn K (.ref f20) = true)
    (a24 : PySem.W.nsIn K mainGlobals "_law_due" = some (some (.ref f23)))
    (l25 : K.lookup f23 = some ⟨oc25, od25, .func (PySem.W.fnOf "_law_due" "_law_due" (defArgs s_law_due) (defBody s_law_due) (defScope s_law_due) .none kV25 dc25 pm25 an25 cd25 ct25), sl25⟩)
    (c25 : PySem.W.codeIn K cd25 "_law_due" = true)
    (k25 : PySem.W.keepIn K (.ref f23) = true)
    (a27 : PySem.W.nsIn K mainGlobals "entry_bits" = some (some (.ref f26)))
    (l28 : K.lookup f26 = some ⟨oc28, od28, .func (PySem.W.fnOf "entry_bits" "entry_bits" (defArgs s_entry_bits) (defBody s_entry_bits) (defScope s_entry_bits) .none kV28 dc28 pm28 an28 cd28 ct28), sl28⟩)
    (c28 : PySem.W.codeIn K cd28 "entry_bits" = true)
    (k28 : PySem.W.keepIn K (.ref f26) = true)
    (a30 : PySem.W.nsIn K mainGlobals "entry_cases" = some (some (.ref f29)))
    (l31 : K.lookup f29 = some ⟨oc31, od31, .func (PySem.W.fnOf "entry_cases" "entry_cases" (defArgs s_entry_cases) (defBody s_entry_cases) (defScope s_entry_cases) .none (.ref D32) dc31 pm31 an31 cd31 ct31), sl31⟩)
    (c31 : PySem.W.codeIn K cd31 "entry_cases" = true)
    (k31 : PySem.W.keepIn K (.ref f29) = true)
    (z34 : PySem.W.nsIn K D32 "silent" = some (some (.bool false)))
    (l35 : K.lookup fa = some ⟨oc35, od35, .func (PySem.W.fnOf "law" "law" (defArgs s_law) (defBody s_law) (defScope s_law) .none kV35 dc35 pm35 an35 cd35 ct35), sl35⟩)
    (c35 : PySem.W.codeIn K cd35 "law" = true)
    (k35 : PySem.W.keepIn K (.ref fa) = true)
    (z36 : PySem.W.nsIn K mainGlobals "len" = some none)
    (z37 : PySem.W.nsIn K mainGlobals "abs" = some none)
    (z38 : PySem.W.nsIn K mainGlobals "int" = some none)
    (z39 : PySem.W.nsIn K mainGlobals "range" = some none)
    (z40 : PySem.W.nsIn K mainGlobals "sorted" = some none)
    (z41 : PySem.W.nsIn K mainGlobals "enumerate" = some none)
    (z42 : PySem.W.nsIn K mainGlobals "tuple" = some none)
    (z43 : PySem.W.nsIn K mainGlobals "max" = some none)
    (z44 : PySem.W.nsIn K mainGlobals "min" = some none)
    (z45 : PySem.W.nsIn K mainGlobals "list" = some none)
    (z46 : PySem.W.nsIn K mainGlobals "isinstance" = some none)
    : ∃ fd : FuncData, (∀ (s : Shared) (v : Value), BindsTo s fd ⟨[v], []⟩ [("_law_script", v)]) ∧ ∀ base : Heap, K.In base → base.Ns mainGlobals mg → FnOk P w K mg base CX0 5 fa fd ["_law_script"] (spLaw K) := by
  have F10 := fun_mk (st := s_law_bag) l10 c10 k10
  have b10 := F10.binds (ps := ["_law_script", "_law_at"]) fun _ _ _ _ _ _ us hl => match us, hl with | [_, _], _ => rfl
  have F13 := fun_mk (st := s_law_draw) l13 c13 k13
  have b13 := F13.binds (ps := ["_law_bag_here", "_law_many"]) fun _ _ _ _ _ _ us hl => match us, hl with | [_, _], _ => rfl
  have F16 := fun_mk (st := s_law_of) l16 c16 k16
  have b16 := F16.binds (ps := ["_law_bag_here", "_law_some"]) fun _ _ _ _ _ _ us hl => match us, hl with | [_, _], _ => rfl
  have F19 := fun_mk (st := s_law_names) l19 c19 k19
  have b19 := F19.binds (ps := ["_law_bag_here", "_law_many"]) fun _ _ _ _ _ _ us hl => match us, hl with | [_, _], _ => rfl
  have F22 := fun_mk (st := s_law_subsets) l22 c22 k22
  have b22 := F22.binds (ps := ["_law_marks"]) fun _ _ _ _ _ _ us hl => match us, hl with | [_], _ => rfl
  have F25 := fun_mk (st := s_law_due) l25 c25 k25
  have b25 := F25.binds (ps := ["_law_marks"]) fun _ _ _ _ _ _ us hl => match us, hl with | [_], _ => rfl
  have F28 := fun_mk (st := s_entry_bits) l28 c28 k28
  have b28 := F28.binds (ps := ["many", "is_silent"]) fun _ _ _ _ _ _ us hl => match us, hl with | [_, _], _ => rfl
  have F31 : FunD K "entry_cases" "entry_cases" (defArgs s_entry_cases) (defBody s_entry_cases) (defScope s_entry_cases) [] [("silent", .bl false)]  f29 (PySem.W.fnOf "entry_cases" "entry_cases" (defArgs s_entry_cases) (defBody s_entry_cases) (defScope s_entry_cases) .none (.ref D32) dc31 pm31 an31 cd31 ct31) := ⟨⟨_, _, _, _, _, _, _, _, _, _, rfl, l31, c31, .inl ⟨rfl, rfl⟩, .inr ⟨_, rfl, fun q hq => by
      rcases List.mem_cons.mp hq with rfl | hq
      · exact ⟨_, z34, rfl⟩
      · exact absurd hq (by simp)⟩⟩, k31⟩
  have F35 := fun_mk (st := s_law) l35 c35 k35
  have b35 := F35.binds (ps := ["_law_script"]) fun _ _ _ _ _ _ us hl => match us, hl with | [_], _ => rfl
  have T : Txt K mg ⟨f8, f11, f14, f17, f20, f23, f26, f29, fa⟩ ⟨PySem.W.fnOf "_law_bag" "_law_bag" (defArgs s_law_bag) (defBody s_law_bag) (defScope s_law_bag) .none kV10 dc10 pm10 an10 cd10 ct10, PySem.W.fnOf "_law_draw" "_law_draw" (defArgs s_law_draw) (defBody s_law_draw) (defScope s_law_draw) .none kV13 dc13 pm13 an13 cd13 ct13, PySem.W.fnOf "_law_of" "_law_of" (defArgs s_law_of) (defBody s_law_of) (defScope s_law_of) .none kV16 dc16 pm16 an16 cd16 ct16, PySem.W.fnOf "_law_names" "_law_names" (defArgs s_law_names) (defBody s_law_names) (defScope s_law_names) .none kV19 dc19 pm19 an19 cd19 ct19, PySem.W.fnOf "_law_subsets" "_law_subsets" (defArgs s_law_subsets) (defBody s_law_subsets) (defScope s_law_subsets) .none kV22 dc22 pm22 an22 cd22 ct22, PySem.W.fnOf "_law_due" "_law_due" (defArgs s_law_due) (defBody s_law_due) (defScope s_law_due) .none kV25 dc25 pm25 an25 cd25 ct25, PySem.W.fnOf "entry_bits" "entry_bits" (defArgs s_entry_bits) (defBody s_entry_bits) (defScope s_entry_bits) .none kV28 dc28 pm28 an28 cd28 ct28, PySem.W.fnOf "entry_cases" "entry_cases" (defArgs s_entry_cases) (defBody s_entry_cases) (defScope s_entry_cases) .none (.ref D32) dc31 pm31 an31 cd31 ct31, PySem.W.fnOf "law" "law" (defArgs s_law) (defBody s_law) (defScope s_law) .none kV35 dc35 pm35 an35 cd35 ct35⟩ := ⟨⟨_, PySem.W.mg_of X G z2, ⟨_, rfl⟩⟩, ⟨_, PySem.W.mg_of X G z4, ⟨_, rfl⟩⟩, ⟨_, PySem.W.mg_of X G z6, ⟨_, rfl⟩⟩, F10, b10, PySem.W.mg_of X G a9, F13, b13, PySem.W.mg_of X G a12, F16, b16, PySem.W.mg_of X G a15, F19, b19, PySem.W.mg_of X G a18, F22, b22, PySem.W.mg_of X G a21, F25, b25, PySem.W.mg_of X G a24, F28, b28, PySem.W.mg_of X G a27, F31, PySem.W.mg_of X G a30, F35, b35, hfa, PySem.W.mg_none_of X G z36, PySem.W.mg_none_of X G z37, PySem.W.mg_none_of X G z38, PySem.W.mg_none_of X G z39, PySem.W.mg_none_of X G z40, PySem.W.mg_none_of X G z41, PySem.W.mg_none_of X G z42, PySem.W.mg_none_of X G z43, PySem.W.mg_none_of X G z44, PySem.W.mg_none_of X G z45, PySem.W.mg_none_of X G z46⟩
  exact ⟨_, fun s v => .of_eq rfl, fun base _ _ => ok_law T⟩
theorem all_mk' {w : World} {K : PySem.W.Frag} {h : Heap} {mg : Str → Option Value} {fa f0 : Addr} (X : K.In h) (G : h.Ns mainGlobals mg) (hfa0 : mg "law" = some (.ref fa))
    {t3 : Tok}
    {t5 : Tok}
    {t7 : Tok}
    {f8 : Addr}
    {od10 an10 : Option Addr} {sl10 : Array (Option Value)} {oc10 kV10 dc10 pm10 cd10 ct10 : Value}
    {f11 : Addr}
    {od13 an13 : Option Addr} {sl13 : Array (Option Value)} {oc13 kV13 dc13 pm13 cd13 ct13 : Value}
    {f14 : Addr}
    {od16 an16 : Option Addr} {sl16 : Array (Option Value)} {oc16 kV16 dc16 pm16 cd16 ct16 : Value}
    {f17 : Addr}
    {od19 an19 : Option Addr} {sl19 : Array (Option Value)} {oc19 kV19 dc19 pm19 cd19 ct19 : Value}
    {f20 : Addr}
    {od22 an22 : Option Addr} {sl22 : Array (Option Value)} {oc22 kV22 dc22 pm22 cd22 ct22 : Value}
    {f23 : Addr}
    {od25 an25 : Option Addr} {sl25 : Array (Option Value)} {oc25 kV25 dc25 pm25 cd25 ct25 : Value}
    {f26 : Addr}
    {od28 an28 : Option Addr} {sl28 : Array (Option Value)} {oc28 kV28 dc28 pm28 cd28 ct28 : Value}
    {f29 : Addr}
    {od31 an31 : Option Addr} {sl31 : Array (Option Value)} {oc31 dc31 pm31 cd31 ct31 : Value}
    {D32 : Addr}
    {od35 an35 : Option Addr} {sl35 : Array (Option Value)} {oc35 kV35 dc35 pm35 cd35 ct35 : Value}
    (a0 : PySem.W.nsIn K mainGlobals "law" = some (some (.ref f0)))
    (z1 : PySem.W.nsIn K cStatics "thirdparty.any" = some none)
    (z2 : PySem.W.nsIn K mainGlobals "NONE" = some (some (.int 0 t3)))
    (z4 : PySem.W.nsIn K mainGlobals "OPEN" = some (some (.int 1 t5)))
    (z6 : PySem.W.nsIn K mainGlobals "DOOMED" = some (some (.int 2 t7)))
    (a9 : PySem.W.nsIn K mainGlobals "_law_bag" = some (some (.ref f8)))
    (l10 : K.lookup f8 = some ⟨oc10, od10, .func (PySem.W.fnOf "_law_bag" "_law_bag" (defArgs s_law_bag) (defBody s_law_bag) (defScope s_law_bag) .none kV10 dc10 pm10 an10 cd10 ct10), sl10⟩)
    (c10 : PySem.W.codeIn K cd10 "_law_bag" = true)
    (k10 : PySem.W.keepIn K (.ref f8) = true)
    (a12 : PySem.W.nsIn K mainGlobals "_law_draw" = some (some (.ref f11)))
    (l13 : K.lookup f11 = some ⟨oc13, od13, .func (PySem.W.fnOf "_law_draw" "_law_draw" (defArgs s_law_draw) (defBody s_law_draw) (defScope s_law_draw) .none kV13 dc13 pm13 an13 cd13 ct13), sl13⟩)
    (c13 : PySem.W.codeIn K cd13 "_law_draw" = true)
    (k13 : PySem.W.keepIn K (.ref f11) = true)
    (a15 : PySem.W.nsIn K mainGlobals "_law_of" = some (some (.ref f14)))
    (l16 : K.lookup f14 = some ⟨oc16, od16, .func (PySem.W.fnOf "_law_of" "_law_of" (defArgs s_law_of) (defBody s_law_of) (defScope s_law_of) .none kV16 dc16 pm16 an16 cd16 ct16), sl16⟩)
    (c16 : PySem.W.codeIn K cd16 "_law_of" = true)
    (k16 : PySem.W.keepIn K (.ref f14) = true)
    (a18 : PySem.W.nsIn K mainGlobals "_law_names" = some (some (.ref f17)))
    (l19 : K.lookup f17 = some ⟨oc19, od19, .func (PySem.W.fnOf "_law_names" "_law_names" (defArgs s_law_names) (defBody s_law_names) (defScope s_law_names) .none kV19 dc19 pm19 an19 cd19 ct19), sl19⟩)
    (c19 : PySem.W.codeIn K cd19 "_law_names" = true)
    (k19 : PySem.W.keepIn K (.ref f17) = true)
    (a21 : PySem.W.nsIn K mainGlobals "_law_subsets" = some (some (.ref f20)))
    (l22 : K.lookup f20 = some ⟨oc22, od22, .func (PySem.W.fnOf "_law_subsets" "_law_subsets" (defArgs s_law_subsets) (defBody s_law_subsets) (defScope s_law_subsets) .none kV22 dc22 pm22 an22 cd22 ct22), sl22⟩)
    (c22 : PySem.W.codeIn K cd22 "_law_subsets" = true)
    (k22 : PySem.W.keepIn K (.ref f20) = true)
    (a24 : PySem.W.nsIn K mainGlobals "_law_due" = some (some (.ref f23)))
    (l25 : K.lookup f23 = some ⟨oc25, od25, .func (PySem.W.fnOf "_law_due" "_law_due" (defArgs s_law_due) (defBody s_law_due) (defScope s_law_due) .none kV25 dc25 pm25 an25 cd25 ct25), sl25⟩)
    (c25 : PySem.W.codeIn K cd25 "_law_due" = true)
    (k25 : PySem.W.keepIn K (.ref f23) = true)
    (a27 : PySem.W.nsIn K mainGlobals "entry_bits" = some (some (.ref f26)))
    (l28 : K.lookup f26 = some ⟨oc28, od28, .func (PySem.W.fnOf "entry_bits" "entry_bits" (defArgs s_entry_bits) (defBody s_entry_bits) (defScope s_entry_bits) .none kV28 dc28 pm28 an28 cd28 ct28), sl28⟩)
    (c28 : PySem.W.codeIn K cd28 "entry_bits" = true)
    (k28 : PySem.W.keepIn K (.ref f26) = true)
    (a30 : PySem.W.nsIn K mainGlobals "entry_cases" = some (some (.ref f29)))
    (l31 : K.lookup f29 = some ⟨oc31, od31, .func (PySem.W.fnOf "entry_cases" "entry_cases" (defArgs s_entry_cases) (defBody s_entry_cases) (defScope s_entry_cases) .none (.ref D32) dc31 pm31 an31 cd31 ct31), sl31⟩)
    (c31 : PySem.W.codeIn K cd31 "entry_cases" = true)
    (k31 : PySem.W.keepIn K (.ref f29) = true)
    (z34 : PySem.W.nsIn K D32 "silent" = some (some (.bool false)))
    (l35 : K.lookup f0 = some ⟨oc35, od35, .func (PySem.W.fnOf "law" "law" (defArgs s_law) (defBody s_law) (defScope s_law) .none kV35 dc35 pm35 an35 cd35 ct35), sl35⟩)
    (c35 : PySem.W.codeIn K cd35 "law" = true)
    (k35 : PySem.W.keepIn K (.ref f0) = true)
    (z36 : PySem.W.nsIn K mainGlobals "len" = some none)
    (z37 : PySem.W.nsIn K mainGlobals "abs" = some none)
    (z38 : PySem.W.nsIn K mainGlobals "int" = some none)
    (z39 : PySem.W.nsIn K mainGlobals "range" = some none)
    (z40 : PySem.W.nsIn K mainGlobals "sorted" = some none)
    (z41 : PySem.W.nsIn K mainGlobals "enumerate" = some none)
    (z42 : PySem.W.nsIn K mainGlobals "tuple" = some none)
    (z43 : PySem.W.nsIn K mainGlobals "max" = some none)
    (z44 : PySem.W.nsIn K mainGlobals "min" = some none)
    (z45 : PySem.W.nsIn K mainGlobals "list" = some none)
    (z46 : PySem.W.nsIn K mainGlobals "isinstance" = some none)
    : ∃ fd : FuncData, (∀ (s : Shared) (v : Value), BindsTo s fd ⟨[v], []⟩ [("_law_script", v)]) ∧ ∀ base : Heap, K.In base → base.Ns mainGlobals mg → FnOk P w K mg base CX0 5 fa fd ["_law_script"] (spLaw K) := by
  have e := hfa0.symm.trans (PySem.W.mg_of X G a0)
  cases e
  exact all_mk X G hfa0 z1 z2 z4 z6 a9 l10 c10 k10 a12 l13 c13 k13 a15 l16 c16 k16 a18 l19 c19 k19 a21 l22 c22 k22 a24 l25 c25 k25 a27 l28 c28 k28 a30 l31 c31 k31 z34 l35 c35 k35 z36 z37 z38 z39 z40 z41 z42 z43 z44 z45 z46
end Ic
open PySem PySem.W PyProof.Rows
set_option maxRecDepth 100000 in
set_option maxHeartbeats 0 in
theorem PySem.Challenge.cw_innercommits_k49_entry_cases_holds : PySem.Challenge.rw_innercommits_k49_entry_cases.Holds := by
  w_on; o_law; k_head; (case hw => w_witness2)
  k_fill
  refine L2.walk_ofB (l := PySem.Challenge.rw_innercommits_k49_entry_cases) (n := 63) (k := 5) (x := "_law_script") (CX := fun _ => L2.CX0) (sp := fun w => Ic.spLaw _) rfl (by decide) rfl ⟨rfl, by decide, by decide⟩ (fun w h Y => PySem.W.kIn_of Y) ?F (fun _ _ a ns hl _ _ hS => ⟨a, ns, rfl, hS, hl, fun _ => rfl⟩) (fun _ _ _ _ _ h => h)
  case F =>
    intro w mg fa h KX G hmg
    refine' Ic.all_mk' KX G hmg ?a0 ?z1 ?z2 ?z4 ?z6 ?a9 ?l10 ?c10 ?k10 ?a12 ?l13 ?c13 ?k13 ?a15 ?l16 ?c16 ?k16 ?a18 ?l19 ?c19 ?k19 ?a21 ?l22 ?c22 ?k22 ?a24 ?l25 ?c25 ?k25 ?a27 ?l28 ?c28 ?k28 ?a30 ?l31 ?c31 ?k31 ?z34 ?l35 ?c35 ?k35 ?z36 ?z37 ?z38 ?z39 ?z40 ?z41 ?z42 ?z43 ?z44 ?z45 ?z46
    (case a0 => k_is)
    (case z1 => k_is)
    (case z2 => k_is)
    (case z4 => k_is)
    (case z6 => k_is)
    (case a9 => k_is)
    (case l10 => k_is)
    (case c10 => k_is)
    (case k10 => k_is)
    (case a12 => k_is)
    (case l13 => k_is)
    (case c13 => k_is)
    (case k13 => k_is)
    (case a15 => k_is)
    (case l16 => k_is)
    (case c16 => k_is)
    (case k16 => k_is)
    (case a18 => k_is)
    (case l19 => k_is)
    (case c19 => k_is)
    (case k19 => k_is)
    (case a21 => k_is)
    (case l22 => k_is)
    (case c22 => k_is)
    (case k22 => k_is)
    (case a24 => k_is)
    (case l25 => k_is)
    (case c25 => k_is)
    (case k25 => k_is)
    (case a27 => k_is)
    (case l28 => k_is)
    (case c28 => k_is)
    (case k28 => k_is)
    (case a30 => k_is)
    (case l31 => k_is)
    (case c31 => k_is)
    (case k31 => k_is)
    (case z34 => k_is)
    (case l35 => k_is)
    (case c35 => k_is)
    (case k35 => k_is)
    (case z36 => k_is)
    (case z37 => k_is)
    (case z38 => k_is)
    (case z39 => k_is)
    (case z40 => k_is)
    (case z41 => k_is)
    (case z42 => k_is)
    (case z43 => k_is)
    (case z44 => k_is)
    (case z45 => k_is)
    (case z46 => k_is)
#print axioms PySem.Challenge.cw_innercommits_k49_entry_cases_holds
